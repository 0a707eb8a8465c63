import PyProof.Rows.All
import Wide.All
import OpenK.AllK
import Wide.FinOn
import HandS.ForExc
import HandS.ForMost
import HandS.Deep
import HandS.Defaults
import HandS.Wide
import HandS.IsInst
import HandS.TupAny
import HandS.TryMany
import PySem.Challenge.RW_sealhouse_k81_tied_by_a_paper
set_option Elab.async false
set_option linter.all false
set_option maxRecDepth 100000
set_option maxHeartbeats 4000000
/-! Mp: a small pure interpreter of the programs' texts, and its soundness over the hand layer. -/
namespace Mp
open PySem L2

/-! ### data -/
inductive D where
  | non | bl (b : Bool) | int (i : Int) | str (x : Str)
  | tup (ds : List D) | lst (ds : List D)
  | dct (tk : Bool) (ks vs : List D)
  deriving Inhabited

def isSc : D → Bool
  | .non | .bl _ | .int _ | .str _ => true
  | _ => false

def strOk (x : Str) : Bool := PyData.strOk x

/-! ### representation -/
/-- a key of a dict as data -/
def kD : Key → D
  | .inl i => .int i
  | .inr x => .str x
def ksD (k : List Key) : D := .tup (k.map kD)

mutual
/-- v stands for the frozen data d: its objects are tracked and none of P -/
def Rp (H : Hp) (P : Addr → Prop) : V → D → Prop
  | v, .non => v = .non
  | v, .bl b => v = .bl b
  | v, .int i => v = .int i
  | v, .str x => v = .str x ∧ strOk x = true
  | v, .tup ds => ∃ a vs, v = .ref a ∧ ¬ P a ∧ H a = some (.tup vs) ∧ Rps H P vs ds
  | v, .lst ds => ∃ a vs, v = .ref a ∧ ¬ P a ∧ H a = some (.lst vs) ∧ Rps H P vs ds
  | v, .dct false ks ds => ∃ a kvs, v = .ref a ∧ ¬ P a ∧ Rd H a (.dK kvs) ∧ ks = kvs.map (fun p => kD p.1) ∧ (∀ p ∈ kvs, ∀ x, p.1 = .inr x → strOk x = true) ∧ Rps H P (kvs.map (·.2)) ds
  | v, .dct true ks ds => ∃ a kvs, v = .ref a ∧ ¬ P a ∧ Rd H a (.dT kvs) ∧ ks = kvs.map (fun p => ksD p.1) ∧ (∀ p ∈ kvs, ∀ x, Sum.inr x ∈ p.1 → strOk x = true) ∧ Rps H P (kvs.map (·.2)) ds
def Rps (H : Hp) (P : Addr → Prop) : List V → List D → Prop
  | [], [] => True
  | v :: vs, d :: ds => Rp H P v d ∧ Rps H P vs ds
  | _, _ => False
end

/-- how H' goes on from H: what is not owned stays -/
def Fr (P : Addr → Prop) (H H' : Hp) : Prop := ∀ a o, ¬ P a → H a = some o → H' a = some o
abbrev Ex (H H' : Hp) : Prop := ∀ a o, H a = some o → H' a = some o
theorem Ex.refl (H : Hp) : Ex H H := fun _ _ h => h
theorem Ex.trans {H H1 H2 : Hp} (a : Ex H H1) (b : Ex H1 H2) : Ex H H2 := fun x o h => b x o (a x o h)
theorem Ex.new {H : Hp} {p : Addr} {o : HO} (h : H p = none) : Ex H (upd H p o) := fun a u e => by
  rw [upd_ne (ne_of_none e h)]; exact e
theorem Ex.none {H H' : Hp} (e : Ex H H') {a : Addr} (h : H' a = none) : H a = none := by
  cases q : H a with
  | none => rfl
  | some o => rw [e a o q] at h; cases h
theorem ex_rd {H H' : Hp} (e : Ex H H') {a : Addr} {u : HO} (h : Rd H a u) : Rd H' a u := by
  rcases h with h | ⟨o, h⟩
  · exact .inl (e _ _ h)
  · exact .inr ⟨o, e _ _ h⟩
theorem rd_some {H : Hp} {a : Addr} {u : HO} (h : Rd H a u) : ∃ o, H a = some o := by
  rcases h with h | ⟨o, h⟩
  · exact ⟨_, h⟩
  · exact ⟨_, h⟩

mutual
/-- the representation goes over to another heap: tracked objects that are none of P stay; P' holds none of the old ones but those of P -/
theorem Rp.move {H H' : Hp} {P P' : Addr → Prop} (k : ∀ a o, ¬ P a → H a = some o → H' a = some o) (n : ∀ a o, ¬ P a → H a = some o → ¬ P' a) : ∀ {d : D} {v : V}, Rp H P v d → Rp H' P' v d
  | .non, _, h => by simpa [Rp] using h
  | .bl _, _, h => by simpa [Rp] using h
  | .int _, _, h => by simpa [Rp] using h
  | .str _, _, h => by simpa [Rp] using h
  | .tup ds, v, h => by
    simp only [Rp] at h ⊢
    obtain ⟨a, vs, e, p, t, r⟩ := h
    exact ⟨a, vs, e, n a _ p t, k a _ p t, Rps.move k n r⟩
  | .lst ds, v, h => by
    simp only [Rp] at h ⊢
    obtain ⟨a, vs, e, p, t, r⟩ := h
    exact ⟨a, vs, e, n a _ p t, k a _ p t, Rps.move k n r⟩
  | .dct false ks ds, v, h => by
    simp only [Rp] at h ⊢
    obtain ⟨a, vs, e, p, t, r1, r2, r⟩ := h
    refine ⟨a, vs, e, ?_, ?_, r1, r2, Rps.move k n r⟩
    · rcases t with t | ⟨o, t⟩ <;> exact n a _ p t
    · rcases t with t | ⟨o, t⟩
      · exact .inl (k a _ p t)
      · exact .inr ⟨o, k a _ p t⟩
  | .dct true ks ds, v, h => by
    simp only [Rp] at h ⊢
    obtain ⟨a, vs, e, p, t, r1, r2, r⟩ := h
    refine ⟨a, vs, e, ?_, ?_, r1, r2, Rps.move k n r⟩
    · rcases t with t | ⟨o, t⟩ <;> exact n a _ p t
    · rcases t with t | ⟨o, t⟩
      · exact .inl (k a _ p t)
      · exact .inr ⟨o, k a _ p t⟩
theorem Rps.move {H H' : Hp} {P P' : Addr → Prop} (k : ∀ a o, ¬ P a → H a = some o → H' a = some o) (n : ∀ a o, ¬ P a → H a = some o → ¬ P' a) : ∀ {ds : List D} {vs : List V}, Rps H P vs ds → Rps H' P' vs ds
  | [], [], h => by simp [Rps]
  | [], _ :: _, h => by simp [Rps] at h
  | _ :: _, [], h => by simp [Rps] at h
  | d :: ds, v :: vs, h => by
    simp only [Rps] at h ⊢
    exact ⟨Rp.move k n h.1, Rps.move k n h.2⟩
end
theorem Rp.ex {H H' : Hp} {P : Addr → Prop} (e : Ex H H') {d : D} {v : V} (h : Rp H P v d) : Rp H' P v d := h.move (fun a o _ q => e a o q) fun _ _ p _ => p
theorem Rps.ex {H H' : Hp} {P : Addr → Prop} (e : Ex H H') {ds : List D} {vs : List V} (h : Rps H P vs ds) : Rps H' P vs ds := h.move (fun a o _ q => e a o q) fun _ _ p _ => p
theorem Rp.less {H : Hp} {P P' : Addr → Prop} (n : ∀ a, P' a → P a) {d : D} {v : V} (h : Rp H P v d) : Rp H P' v d := h.move (fun a o _ q => q) fun a _ p _ q => p (n a q)
theorem Rps.less {H : Hp} {P P' : Addr → Prop} (n : ∀ a, P' a → P a) {ds : List D} {vs : List V} (h : Rps H P vs ds) : Rps H P' vs ds := h.move (fun a o _ q => q) fun a _ p _ q => p (n a q)
theorem Rps.length {H : Hp} {P : Addr → Prop} : ∀ {vs : List V} {ds : List D}, Rps H P vs ds → vs.length = ds.length
  | [], [], _ => rfl
  | [], _ :: _, h => by simp [Rps] at h
  | _ :: _, [], h => by simp [Rps] at h
  | v :: vs, d :: ds, h => by
    simp only [Rps] at h
    simp [Rps.length h.2]
theorem Rps.get {H : Hp} {P : Addr → Prop} : ∀ {vs : List V} {ds : List D} {i : Nat} {d : D}, Rps H P vs ds → ds[i]? = some d → ∃ v, vs[i]? = some v ∧ Rp H P v d
  | [], [], _, _, _, e => by simp at e
  | [], _ :: _, _, _, h, _ => by simp [Rps] at h
  | _ :: _, [], _, _, h, _ => by simp [Rps] at h
  | v :: vs, d :: ds, 0, d', h, e => by
    simp only [Rps] at h
    simp at e
    subst e
    exact ⟨v, by simp, h.1⟩
  | v :: vs, d :: ds, i + 1, d', h, e => by
    simp only [Rps] at h
    obtain ⟨w, h1, h2⟩ := Rps.get (i := i) (d := d') h.2 (by simpa using e)
    exact ⟨w, by simpa using h1, h2⟩
theorem Rps.get' {H : Hp} {P : Addr → Prop} {vs : List V} {ds : List D} {i : Nat} {v : V} (h : Rps H P vs ds) (e : vs[i]? = some v) : ∃ d, ds[i]? = some d ∧ Rp H P v d := by
  have hl := h.length
  obtain ⟨hi, _⟩ := List.getElem?_eq_some_iff.mp e
  obtain ⟨w, h1, h2⟩ := h.get (i := i) (d := ds[i]'(by omega)) (List.getElem?_eq_getElem (by omega))
  rw [e] at h1
  cases h1
  exact ⟨_, List.getElem?_eq_getElem (by omega), h2⟩
theorem Rps.append {H : Hp} {P : Addr → Prop} : ∀ {vs ws : List V} {ds es : List D}, Rps H P vs ds → Rps H P ws es → Rps H P (vs ++ ws) (ds ++ es)
  | [], _, [], _, _, h => h
  | [], _, _ :: _, _, h, _ => by simp [Rps] at h
  | _ :: _, _, [], _, h, _ => by simp [Rps] at h
  | v :: vs, ws, d :: ds, es, h, h2 => by
    simp only [Rps] at h
    show Rp H P v d ∧ Rps H P (vs ++ ws) (ds ++ es)
    exact ⟨h.1, Rps.append h.2 h2⟩
theorem Rps.one {H : Hp} {P : Addr → Prop} {v : V} {d : D} (h : Rp H P v d) : Rps H P [v] [d] := ⟨h, trivial⟩
theorem Rps.take {H : Hp} {P : Addr → Prop} : ∀ (n : Nat) {vs : List V} {ds : List D}, Rps H P vs ds → Rps H P (vs.take n) (ds.take n)
  | 0, _, _, _ => by simp [Rps]
  | _ + 1, [], [], h => by simp [Rps]
  | _ + 1, [], _ :: _, h => by simp [Rps] at h
  | _ + 1, _ :: _, [], h => by simp [Rps] at h
  | n + 1, v :: vs, d :: ds, h => by
    simp only [Rps] at h
    exact ⟨h.1, Rps.take n h.2⟩
theorem Rps.drop {H : Hp} {P : Addr → Prop} : ∀ (n : Nat) {vs : List V} {ds : List D}, Rps H P vs ds → Rps H P (vs.drop n) (ds.drop n)
  | 0, _, _, h => by simpa using h
  | _ + 1, [], [], h => by simp [Rps]
  | _ + 1, [], _ :: _, h => by simp [Rps] at h
  | _ + 1, _ :: _, [], h => by simp [Rps] at h
  | n + 1, v :: vs, d :: ds, h => by
    simp only [Rps] at h
    simpa using Rps.drop n h.2
theorem Rps.dropLast {H : Hp} {P : Addr → Prop} {vs : List V} {ds : List D} (h : Rps H P vs ds) : Rps H P vs.dropLast ds.dropLast := by
  rw [List.dropLast_eq_take, List.dropLast_eq_take, h.length]
  exact h.take _
theorem Rps.set {H : Hp} {P : Addr → Prop} {v : V} {d : D} (r : Rp H P v d) : ∀ (n : Nat) {vs : List V} {ds : List D}, Rps H P vs ds → Rps H P (vs.set n v) (ds.set n d)
  | _, [], [], h => by simp [Rps]
  | _, [], _ :: _, h => by simp [Rps] at h
  | _, _ :: _, [], h => by simp [Rps] at h
  | 0, _ :: vs, _ :: ds, h => by
    simp only [Rps] at h
    exact ⟨r, h.2⟩
  | n + 1, w :: vs, e :: ds, h => by
    simp only [Rps] at h
    exact ⟨h.1, Rps.set r n h.2⟩
theorem Rps.reverse {H : Hp} {P : Addr → Prop} : ∀ {vs : List V} {ds : List D}, Rps H P vs ds → Rps H P vs.reverse ds.reverse
  | [], [], h => by simp [Rps]
  | [], _ :: _, h => by simp [Rps] at h
  | _ :: _, [], h => by simp [Rps] at h
  | v :: vs, d :: ds, h => by
    simp only [Rps] at h
    rw [List.reverse_cons, List.reverse_cons]
    exact (Rps.reverse h.2).append (Rps.one h.1)
theorem Rps.ints {H : Hp} {P : Addr → Prop} : ∀ (ns : List Int), Rps H P (ns.map V.int) (ns.map D.int)
  | [] => by simp [Rps]
  | n :: ns => by simp [Rps, Rp, Rps.ints ns]

/-- all objects of it are tracked: none of it is a fresh one -/
theorem Rp.fresh {H : Hp} {P : Addr → Prop} {d : D} {v : V} (h : Rp H P v d) {p : Addr} (hp : H p = none) : Rp H (fun a => P a ∨ a = p) v d :=
  h.move (fun _ _ _ q => q) fun a o n q z => z.elim n fun e => by subst e; rw [hp] at q; cases q
theorem Rps.fresh {H : Hp} {P : Addr → Prop} {ds : List D} {vs : List V} (h : Rps H P vs ds) {p : Addr} (hp : H p = none) : Rps H (fun a => P a ∨ a = p) vs ds :=
  h.move (fun _ _ _ q => q) fun a o n q z => z.elim n fun e => by subst e; rw [hp] at q; cases q
end Mp

namespace Mp
open PySem L2

/-! ### results, slots -/
/-- val: frozen; own: a list or dict that one slot (or one passing result) alone knows, its items frozen; bor: a list, tuple or dict that is lent, its items frozen -/
inductive R where
  | val (d : D) | own (d : D) | bor (d : D)
  deriving Inhabited
@[simp] def R.d : R → D
  | .val d | .own d | .bor d => d
inductive Res (α : Type) where
  | ok (a : α) | exc (c : Nat) (pl : List (Str × D)) | stuck
def Res.bind {α β : Type} (x : Res α) (f : α → Res β) : Res β := match x with
  | .ok a => f a
  | .exc c pl => .exc c pl
  | .stuck => .stuck
@[simp] theorem Res.bind_ok {α β : Type} (a : α) (f : α → Res β) : (Res.ok a).bind f = f a := rfl
@[simp] theorem Res.bind_exc {α β : Type} (c : Nat) (pl : List (Str × D)) (f : α → Res β) : (Res.exc c pl : Res α).bind f = .exc c pl := rfl
@[simp] theorem Res.bind_stuck {α β : Type} (f : α → Res β) : (Res.stuck : Res α).bind f = .stuck := rfl
abbrev Env := List (Option R)

/-- the object at a is d's, a known to none else: P holds a -/
def Cell (H : Hp) (P : Addr → Prop) (a : Addr) : D → Prop
  | .lst ds => ∃ vs, H a = some (.lst vs) ∧ Rps H P vs ds
  | .dct false ks ds => ∃ kvs, H a = some (.dK kvs) ∧ ks = kvs.map (fun p => kD p.1) ∧ (∀ p ∈ kvs, ∀ x, p.1 = .inr x → strOk x = true) ∧ Rps H P (kvs.map (·.2)) ds
  | .dct true ks ds => ∃ kvs, H a = some (.dT kvs) ∧ ks = kvs.map (fun p => ksD p.1) ∧ (∀ p ∈ kvs, ∀ x, Sum.inr x ∈ p.1 → strOk x = true) ∧ Rps H P (kvs.map (·.2)) ds
  | _ => False
theorem Cell.there {H : Hp} {P : Addr → Prop} {a : Addr} {d : D} (h : Cell H P a d) : ∃ o, H a = some o := by
  cases d with
  | lst ds => obtain ⟨vs, h, _⟩ := h; exact ⟨_, h⟩
  | dct tk ks ds => cases tk <;> (obtain ⟨vs, h, _⟩ := h; exact ⟨_, h⟩)
  | _ => exact False.elim h
theorem Cell.move {H H' : Hp} {P P' : Addr → Prop} (k : ∀ a o, ¬ P a → H a = some o → H' a = some o) (n : ∀ a o, ¬ P a → H a = some o → ¬ P' a) {a : Addr} (ha : H' a = H a) {d : D} (h : Cell H P a d) : Cell H' P' a d := by
  cases d with
  | lst ds => obtain ⟨vs, h, r⟩ := h; exact ⟨vs, ha.trans h, r.move k n⟩
  | dct tk ks ds =>
    cases tk with
    | false => obtain ⟨vs, h, r1, r2, r⟩ := h; exact ⟨vs, ha.trans h, r1, r2, r.move k n⟩
    | true => obtain ⟨vs, h, r1, r2, r⟩ := h; exact ⟨vs, ha.trans h, r1, r2, r.move k n⟩
  | _ => exact False.elim h
theorem Cell.ex {H H' : Hp} {P : Addr → Prop} (e : Ex H H') {a : Addr} {d : D} (h : Cell H P a d) : Cell H' P a d := by
  obtain ⟨o, q⟩ := h.there
  exact h.move (fun a o _ q => e a o q) (fun _ _ p _ => p) ((e a o q).trans q.symm)
theorem Cell.less {H : Hp} {P P' : Addr → Prop} (n : ∀ a, P' a → P a) {a : Addr} {d : D} (h : Cell H P a d) : Cell H P' a d := h.move (fun _ _ _ q => q) (fun a _ p _ q => p (n a q)) rfl
theorem Cell.rp {H : Hp} {P P' : Addr → Prop} (n : ∀ a, P' a → P a) {a : Addr} {d : D} (h : Cell H P a d) (hp : ¬ P' a) : Rp H P' (.ref a) d := by
  cases d with
  | lst ds => obtain ⟨vs, h, r⟩ := h; simp only [Rp]; exact ⟨a, vs, rfl, hp, h, r.less n⟩
  | dct tk ks ds =>
    cases tk with
    | false => obtain ⟨vs, h, r1, r2, r⟩ := h; simp only [Rp]; exact ⟨a, vs, rfl, hp, .inl h, r1, r2, r.less n⟩
    | true => obtain ⟨vs, h, r1, r2, r⟩ := h; simp only [Rp]; exact ⟨a, vs, rfl, hp, .inl h, r1, r2, r.less n⟩
  | _ => exact False.elim h

/-- a lent thing, read at its root -/
def Lent (K : PySem.W.Frag) (H : Hp) (P : Addr → Prop) (v : V) : D → Prop
  | .lst ds => ∃ a vs, v = .ref a ∧ SqL K H a vs ∧ Rps H P vs ds
  | .tup ds => ∃ a vs, v = .ref a ∧ SqT K H a vs ∧ Rps H P vs ds
  | .dct false ks ds => ∃ a kvs, v = .ref a ∧ Rd H a (.dK kvs) ∧ ks = kvs.map (fun p => kD p.1) ∧ (∀ p ∈ kvs, ∀ x, p.1 = .inr x → strOk x = true) ∧ Rps H P (kvs.map (·.2)) ds
  | .dct true ks ds => ∃ a kvs, v = .ref a ∧ Rd H a (.dT kvs) ∧ ks = kvs.map (fun p => ksD p.1) ∧ (∀ p ∈ kvs, ∀ x, Sum.inr x ∈ p.1 → strOk x = true) ∧ Rps H P (kvs.map (·.2)) ds
  | _ => False
theorem sql_ex {K : PySem.W.Frag} {H H' : Hp} (e : Ex H H') {a : Addr} {xs : List V} (h : SqL K H a xs) : SqL K H' a xs := h.imp (ex_rd e) id
theorem sqt_ex {K : PySem.W.Frag} {H H' : Hp} (e : Ex H H') {a : Addr} {xs : List V} (h : SqT K H a xs) : SqT K H' a xs := h.imp (ex_rd e) id
theorem Lent.ex {K : PySem.W.Frag} {H H' : Hp} {P : Addr → Prop} (e : Ex H H') {v : V} {d : D} (h : Lent K H P v d) : Lent K H' P v d := by
  cases d with
  | lst ds => obtain ⟨a, vs, h1, h2, r⟩ := h; exact ⟨a, vs, h1, sql_ex e h2, r.ex e⟩
  | tup ds => obtain ⟨a, vs, h1, h2, r⟩ := h; exact ⟨a, vs, h1, sqt_ex e h2, r.ex e⟩
  | dct tk ks ds =>
    cases tk with
    | false => obtain ⟨a, vs, h1, h2, h3, h4, r⟩ := h; exact ⟨a, vs, h1, ex_rd e h2, h3, h4, r.ex e⟩
    | true => obtain ⟨a, vs, h1, h2, h3, h4, r⟩ := h; exact ⟨a, vs, h1, ex_rd e h2, h3, h4, r.ex e⟩
  | _ => exact False.elim h
theorem Lent.less {K : PySem.W.Frag} {H : Hp} {P P' : Addr → Prop} (n : ∀ a, P' a → P a) {v : V} {d : D} (h : Lent K H P v d) : Lent K H P' v d := by
  cases d with
  | lst ds => obtain ⟨a, vs, h1, h2, r⟩ := h; exact ⟨a, vs, h1, h2, r.less n⟩
  | tup ds => obtain ⟨a, vs, h1, h2, r⟩ := h; exact ⟨a, vs, h1, h2, r.less n⟩
  | dct tk ks ds =>
    cases tk with
    | false => obtain ⟨a, vs, h1, h2, h3, h4, r⟩ := h; exact ⟨a, vs, h1, h2, h3, h4, r.less n⟩
    | true => obtain ⟨a, vs, h1, h2, h3, h4, r⟩ := h; exact ⟨a, vs, h1, h2, h3, h4, r.less n⟩
  | _ => exact False.elim h
theorem Rp.lent {K : PySem.W.Frag} {H : Hp} {P : Addr → Prop} {v : V} {d : D} (h : Rp H P v d) (s : isSc d = false) : Lent K H P v d := by
  cases d with
  | lst ds => simp only [Rp] at h; obtain ⟨a, vs, h1, _, h2, r⟩ := h; exact ⟨a, vs, h1, SqL.of h2, r⟩
  | tup ds => simp only [Rp] at h; obtain ⟨a, vs, h1, _, h2, r⟩ := h; exact ⟨a, vs, h1, SqT.of h2, r⟩
  | dct tk ks ds =>
    cases tk with
    | false => simp only [Rp] at h; obtain ⟨a, vs, h1, _, h2, h3, h4, r⟩ := h; exact ⟨a, vs, h1, h2, h3, h4, r⟩
    | true => simp only [Rp] at h; obtain ⟨a, vs, h1, _, h2, h3, h4, r⟩ := h; exact ⟨a, vs, h1, h2, h3, h4, r⟩
  | _ => simp [isSc] at s
theorem Cell.lent {K : PySem.W.Frag} {H : Hp} {P : Addr → Prop} {a : Addr} {d : D} (h : Cell H P a d) : Lent K H P (.ref a) d := by
  cases d with
  | lst ds => obtain ⟨vs, h, r⟩ := h; exact ⟨a, vs, rfl, SqL.of h, r⟩
  | dct tk ks ds =>
    cases tk with
    | false => obtain ⟨vs, h, r1, r2, r⟩ := h; exact ⟨a, vs, rfl, .inl h, r1, r2, r⟩
    | true => obtain ⟨vs, h, r1, r2, r⟩ := h; exact ⟨a, vs, rfl, .inl h, r1, r2, r⟩
  | _ => exact False.elim h

/-- what a result r at v says; H0: the heap ahead of it -/
def RR (K : PySem.W.Frag) (H0 H : Hp) (P : Addr → Prop) (v : V) : R → Prop
  | .val d => Rp H P v d
  | .own d => ∃ a, v = .ref a ∧ H0 a = none ∧ ¬ P a ∧ Cell H (fun b => P b ∨ b = a) a d
  | .bor d => Lent K H P v d
theorem RR.mono {K : PySem.W.Frag} {H0 H0' H H' : Hp} {P : Addr → Prop} {v : V} {r : R} (h : RR K H0 H P v r) (e0 : Ex H0' H0) (e : Ex H H') : RR K H0' H' P v r := by
  cases r with
  | val d => exact Rp.ex e h
  | own d => obtain ⟨a, h1, h2, h3, h4⟩ := h; exact ⟨a, h1, e0.none h2, h3, h4.ex e⟩
  | bor d => exact Lent.ex e h
theorem RR.less {K : PySem.W.Frag} {H0 H : Hp} {P P' : Addr → Prop} (n : ∀ a, P' a → P a) {v : V} {r : R} (h : RR K H0 H P v r) : RR K H0 H P' v r := by
  cases r with
  | val d => exact Rp.less n h
  | own d => obtain ⟨a, h1, h2, h3, h4⟩ := h; exact ⟨a, h1, h2, fun z => h3 (n a z), h4.less fun b z => z.imp (n b) id⟩
  | bor d => exact Lent.less n h
/-- frozen: what may be kept -/
def R.froz : R → Option D
  | .val d | .own d => some d
  | .bor _ => none
theorem RR.froz {K : PySem.W.Frag} {H0 H : Hp} {P : Addr → Prop} {v : V} {r : R} {d : D} (h : RR K H0 H P v r) (e : r.froz = some d) : Rp H P v d := by
  cases r with
  | val d' => cases e; exact h
  | own d' => cases e; obtain ⟨a, h1, h2, h3, h4⟩ := h; subst h1; exact h4.rp (fun _ z => .inl z) h3
  | bor d' => cases e
/-- read at its root -/
theorem RR.lent {K : PySem.W.Frag} {H0 H : Hp} {P : Addr → Prop} {v : V} {r : R} (h : RR K H0 H P v r) (s : isSc r.d = false) : Lent K H P v r.d := by
  cases r with
  | val d => exact Rp.lent h s
  | own d => obtain ⟨a, h1, h2, h3, h4⟩ := h; subst h1; exact h4.lent.less fun _ z => .inl z
  | bor d => exact h
/-- a scalar is frozen -/
theorem RR.sc {K : PySem.W.Frag} {H0 H : Hp} {P : Addr → Prop} {v : V} {r : R} (h : RR K H0 H P v r) (s : isSc r.d = true) : Rp H P v r.d := by
  cases r with
  | val d => exact h
  | own d => obtain ⟨a, h1, h2, h3, h4⟩ := h; cases d <;> first | exact False.elim h4 | simp [isSc] at s
  | bor d => cases d <;> first | exact False.elim h | simp [isSc] at s
theorem RR.int {K : PySem.W.Frag} {H0 H : Hp} {P : Addr → Prop} {v : V} {r : R} {i : Int} (h : RR K H0 H P v r) (e : r.d = .int i) : v = .int i := by
  have q := h.sc (by rw [e]; rfl)
  rw [e] at q
  simpa [Rp] using q
theorem RR.bl {K : PySem.W.Frag} {H0 H : Hp} {P : Addr → Prop} {v : V} {r : R} {b : Bool} (h : RR K H0 H P v r) (e : r.d = .bl b) : v = .bl b := by
  have q := h.sc (by rw [e]; rfl)
  rw [e] at q
  simpa [Rp] using q
theorem RR.str {K : PySem.W.Frag} {H0 H : Hp} {P : Addr → Prop} {v : V} {r : R} {x : Str} (h : RR K H0 H P v r) (e : r.d = .str x) : v = .str x ∧ strOk x = true := by
  have q := h.sc (by rw [e]; rfl)
  rw [e] at q
  simpa [Rp] using q
theorem RR.non {K : PySem.W.Frag} {H0 H : Hp} {P : Addr → Prop} {v : V} {r : R} (h : RR K H0 H P v r) (e : r.d = .non) : v = .non := by
  have q := h.sc (by rw [e]; rfl)
  rw [e] at q
  simpa [Rp] using q
theorem RR.lst {K : PySem.W.Frag} {H0 H : Hp} {P : Addr → Prop} {v : V} {r : R} {ds : List D} (h : RR K H0 H P v r) (e : r.d = .lst ds) : ∃ a vs, v = .ref a ∧ SqL K H a vs ∧ Rps H P vs ds := by
  have q := h.lent (by rw [e]; rfl)
  rw [e] at q
  exact q
theorem RR.tup {K : PySem.W.Frag} {H0 H : Hp} {P : Addr → Prop} {v : V} {r : R} {ds : List D} (h : RR K H0 H P v r) (e : r.d = .tup ds) : ∃ a vs, v = .ref a ∧ SqT K H a vs ∧ Rps H P vs ds := by
  have q := h.lent (by rw [e]; rfl)
  rw [e] at q
  exact q

/-! ### slots -/
/-- a lent thing whose root, where it is tracked, is none of B -/
def Away (H : Hp) (B : Addr → Prop) (a : Addr) : Prop := ¬ B a ∧ ∃ o, H a = some o
def LentB (K : PySem.W.Frag) (H : Hp) (B P : Addr → Prop) (v : V) : D → Prop
  | .lst ds => ∃ a vs, v = .ref a ∧ ((¬ B a ∧ Rd H a (.lst vs)) ∨ ∀ H', SqL K H' a vs) ∧ Rps H P vs ds
  | .tup ds => ∃ a vs, v = .ref a ∧ ((¬ B a ∧ Rd H a (.tup vs)) ∨ ∀ H', SqT K H' a vs) ∧ Rps H P vs ds
  | .dct false ks ds => ∃ a kvs, v = .ref a ∧ ¬ B a ∧ Rd H a (.dK kvs) ∧ ks = kvs.map (fun p => kD p.1) ∧ (∀ p ∈ kvs, ∀ x, p.1 = .inr x → strOk x = true) ∧ Rps H P (kvs.map (·.2)) ds
  | .dct true ks ds => ∃ a kvs, v = .ref a ∧ ¬ B a ∧ Rd H a (.dT kvs) ∧ ks = kvs.map (fun p => ksD p.1) ∧ (∀ p ∈ kvs, ∀ x, Sum.inr x ∈ p.1 → strOk x = true) ∧ Rps H P (kvs.map (·.2)) ds
  | _ => False
theorem LentB.lent {K : PySem.W.Frag} {H : Hp} {B P : Addr → Prop} {v : V} {d : D} (h : LentB K H B P v d) : Lent K H P v d := by
  cases d with
  | lst ds => obtain ⟨a, vs, h1, h2, r⟩ := h; exact ⟨a, vs, h1, h2.elim (fun z => .inl z.2) (fun z => z H), r⟩
  | tup ds => obtain ⟨a, vs, h1, h2, r⟩ := h; exact ⟨a, vs, h1, h2.elim (fun z => .inl z.2) (fun z => z H), r⟩
  | dct tk ks ds =>
    cases tk with
    | false => obtain ⟨a, vs, h1, _, h2, h3, h4, r⟩ := h; exact ⟨a, vs, h1, h2, h3, h4, r⟩
    | true => obtain ⟨a, vs, h1, _, h2, h3, h4, r⟩ := h; exact ⟨a, vs, h1, h2, h3, h4, r⟩
  | _ => exact False.elim h
theorem LentB.move {K : PySem.W.Frag} {H H' : Hp} {B B' P P' : Addr → Prop} (kB : ∀ a o, ¬ B a → H a = some o → H' a = some o) (nB : ∀ a o, ¬ B a → H a = some o → ¬ B' a) (k : ∀ a o, ¬ P a → H a = some o → H' a = some o)
    (n : ∀ a o, ¬ P a → H a = some o → ¬ P' a) {v : V} {d : D} (h : LentB K H B P v d) : LentB K H' B' P' v d := by
  have rd : ∀ {a u}, ¬ B a → Rd H a u → ¬ B' a ∧ Rd H' a u := fun {a u} nb z => z.elim (fun z => ⟨nB _ _ nb z, .inl (kB _ _ nb z)⟩) (fun ⟨o, z⟩ => ⟨nB _ _ nb z, .inr ⟨o, kB _ _ nb z⟩⟩)
  cases d with
  | lst ds => obtain ⟨a, vs, h1, h2, r⟩ := h; exact ⟨a, vs, h1, h2.imp (fun z => rd z.1 z.2) id, r.move k n⟩
  | tup ds => obtain ⟨a, vs, h1, h2, r⟩ := h; exact ⟨a, vs, h1, h2.imp (fun z => rd z.1 z.2) id, r.move k n⟩
  | dct tk ks ds =>
    cases tk with
    | false => obtain ⟨a, vs, h1, h0, h2, h3, h4, r⟩ := h; exact ⟨a, vs, h1, (rd h0 h2).1, (rd h0 h2).2, h3, h4, r.move k n⟩
    | true => obtain ⟨a, vs, h1, h0, h2, h3, h4, r⟩ := h; exact ⟨a, vs, h1, (rd h0 h2).1, (rd h0 h2).2, h3, h4, r.move k n⟩
  | _ => exact False.elim h
theorem LentB.ex {K : PySem.W.Frag} {H H' : Hp} {B P : Addr → Prop} (e : Ex H H') {v : V} {d : D} (h : LentB K H B P v d) : LentB K H' B P v d :=
  h.move (fun a o _ q => e a o q) (fun _ _ p _ => p) (fun a o _ q => e a o q) (fun _ _ p _ => p)
def Cel (c : Nat → List Addr) (a : Addr) : Prop := ∃ i, a ∈ c i
def Own (c : Nat → List Addr) (S : Addr → Prop) (a : Addr) : Prop := (∃ i, a ∈ c i) ∨ S a
def RS (K : PySem.W.Frag) (H : Hp) (B P : Addr → Prop) (cell : List Addr) (v : V) : R → Prop
  | .val d => cell = [] ∧ Rp H P v d
  | .own d => ∃ a, v = .ref a ∧ cell = [a] ∧ Cell H P a d
  | .bor d => cell = [] ∧ LentB K H B P v d
structure SR (K : PySem.W.Frag) (σ : St) (H : Hp) (ρ : Env) (c : Nat → List Addr) (S : Addr → Prop) : Prop where
  len : ρ.length = σ.length
  rep : ∀ i r, ρ[i]? = some (some r) → ∃ v, σ[i]? = some (some v) ∧ RS K H (Cel c) (Own c S) (c i) v r
  off : ∀ i, (∀ r, ρ[i]? ≠ some (some r)) → c i = []
  dis : ∀ i j a, a ∈ c i → a ∈ c j → i = j
  sep : ∀ i a, a ∈ c i → ¬ S a
  trk : ∀ a, Own c S a → ∃ o, H a = some o
theorem RS.ex {K : PySem.W.Frag} {H H' : Hp} {B P : Addr → Prop} (e : Ex H H') {cell : List Addr} {v : V} {r : R} (h : RS K H B P cell v r) : RS K H' B P cell v r := by
  cases r with
  | val d => exact ⟨h.1, h.2.ex e⟩
  | own d => obtain ⟨a, h1, h2, h3⟩ := h; exact ⟨a, h1, h2, h3.ex e⟩
  | bor d => exact ⟨h.1, h.2.ex e⟩
theorem SR.ex {K : PySem.W.Frag} {σ : St} {H H' : Hp} {ρ : Env} {c : Nat → List Addr} {S : Addr → Prop} (h : SR K σ H ρ c S) (e : Ex H H') : SR K σ H' ρ c S :=
  ⟨h.len, fun i r q => let ⟨v, h1, h2⟩ := h.rep i r q; ⟨v, h1, h2.ex e⟩, h.off, h.dis, h.sep, fun a q => let ⟨o, z⟩ := h.trk a q; ⟨o, e a o z⟩⟩

/-! ### what is wanted of a result -/
/-- an exception's own fields, in its dict -/
def XP (H : Hp) (P : Addr → Prop) (d : Option Addr) (pl : List (Str × D)) : Prop :=
  (pl = [] ∧ d = none) ∨ ∃ dd fs, d = some dd ∧ H dd = some (.xd fs) ∧ fs.map (·.1) = pl.map (·.1) ∧ Rps H P (fs.map (·.2)) (pl.map (·.2))
/-- the static surroundings -/
structure Cn where
  K : PySem.W.Frag
  ca : Nat → Addr
def RW (C : Cn) (W : WX) (P : Addr → Prop) (σ : St) (H : Hp) (res : Res R) (Q : VK) : Prop := match res with
  | .ok r => ∀ v H', Ex H H' → RR C.K H H' P v r → Q v H'
  | .exc c pl => ∀ H' d, Ex H H' → XP H' P d pl → W (.ref (C.ca c)) d σ H'
  | .stuck => False
section
variable {C : Cn} {W : WX} {P : Addr → Prop} {σ : St} {H H1 : Hp} {res : Res R} {Q Q' : VK}
theorem RW.mono (e : Ex H H1) (h : RW C W P σ H res Q) : RW C W P σ H1 res Q := by
  cases res with
  | ok r => exact fun v H' e1 q => h v H' (e.trans e1) (q.mono e fun _ _ z => z)
  | exc c pl => exact fun H' d e1 q => h H' d (e.trans e1) q
  | stuck => exact h
theorem RW.imp (h : RW C W P σ H res Q) (k : ∀ v H', Q v H' → Q' v H') : RW C W P σ H res Q' := by
  cases res with
  | ok r => exact fun v H' e q => k _ _ (h v H' e q)
  | exc c pl => exact h
  | stuck => exact h
theorem RW.bind {f : R → Res R} (h : RW C W P σ H (res.bind f) Q) : RW C W P σ H res (fun v H' => ∃ r, Ex H H' ∧ RR C.K H H' P v r ∧ RW C W P σ H' (f r) Q) := by
  cases res with
  | ok r => exact fun v H' e q => ⟨r, e, q, RW.mono e h⟩
  | exc c pl => exact h
  | stuck => exact h
end
def RWs (C : Cn) (W : WX) (P : Addr → Prop) (σ : St) (H : Hp) (res : Res (List R)) (Q : List V → Hp → Prop) : Prop := match res with
  | .ok rs => ∀ vs H', Ex H H' → Paired (RR C.K H H' P) vs rs → Q vs H'
  | .exc c pl => ∀ H' d, Ex H H' → XP H' P d pl → W (.ref (C.ca c)) d σ H'
  | .stuck => False
theorem Pd.mono {K : PySem.W.Frag} {H0 H0' H H' : Hp} {P : Addr → Prop} (e0 : Ex H0' H0) (e : Ex H H') {vs : List V} {rs : List R} (h : Paired (RR K H0 H P) vs rs) : Paired (RR K H0' H' P) vs rs := by
  induction h with
  | nil => exact .nil
  | cons r _ ih => exact .cons (r.mono e0 e) ih
section
variable {C : Cn} {W : WX} {P : Addr → Prop} {σ : St} {H H1 : Hp} {res : Res (List R)} {Q Q' : List V → Hp → Prop}
theorem RWs.mono (e : Ex H H1) (h : RWs C W P σ H res Q) : RWs C W P σ H1 res Q := by
  cases res with
  | ok r => exact fun v H' e1 q => h v H' (e.trans e1) (Pd.mono e (fun _ _ z => z) q)
  | exc c pl => exact fun H' d e1 q => h H' d (e.trans e1) q
  | stuck => exact h
theorem RWs.bind {f : List R → Res R} {Q : VK} (h : RW C W P σ H (res.bind f) Q) : RWs C W P σ H res (fun vs H' => ∃ rs, Ex H H' ∧ Paired (RR C.K H H' P) vs rs ∧ RW C W P σ H' (f rs) Q) := by
  cases res with
  | ok r => exact fun v H' e q => ⟨r, e, q, RW.mono e h⟩
  | exc c pl => exact h
  | stuck => exact h
theorem RWs.imp (h : RWs C W P σ H res Q) (k : ∀ v H', Q v H' → Q' v H') : RWs C W P σ H res Q' := by
  cases res with
  | ok r => exact fun v H' e q => k _ _ (h v H' e q)
  | exc c pl => exact h
  | stuck => exact h
end
/-- the reading of an expression whose meaning is m -/
def tM (C : Cn) (W : WX) (m : Env → Res R) : TE := fun σ H Q => ∃ ρ c S, SR C.K σ H ρ c S ∧ RW C W (Own c S) σ H (m ρ) Q
def tMs (C : Cn) (W : WX) (m : Env → Res (List R)) : TA := fun σ H Q => ∃ ρ c S, SR C.K σ H ρ c S ∧ RWs C W (Own c S) σ H (m ρ) Q
/-- .. as a test -/
def tMt (C : Cn) (W : WX) (m : Env → Res R) : TT := fun σ H Q => ∃ ρ c S, SR C.K σ H ρ c S ∧ RW C W (Own c S) σ H (m ρ) fun v H' => ∃ b, v = .bl b ∧ Q b H'

/-! ### a weaker reading -/
section
variable {X : Cx} {e : Expr} {t t' : TE} {tt tt' : TT} {ta ta' : TA} {es : List Expr}
theorem PE.weak (h : PE X e t) (k : ∀ σ H Q, t' σ H Q → t σ H Q) : PE X e t' := ⟨fun pins s σ H Q I q => h.run pins s σ H Q I (k σ H Q q)⟩
theorem PT.weak (h : PT X e tt) (k : ∀ σ H Q, tt' σ H Q → tt σ H Q) : PT X e tt' := ⟨fun pins s σ H Q I q => h.run pins s σ H Q I (k σ H Q q)⟩
theorem PW.weak (h : PW X e tt) (k : ∀ σ H Q, tt' σ H Q → tt σ H Q) : PW X e tt' := ⟨fun wh pins s σ H Q I q => h.run wh pins s σ H Q I (k σ H Q q)⟩
theorem PA.weak (h : PA X es ta) (k : ∀ σ H Q, ta' σ H Q → ta σ H Q) : PA X es ta' := ⟨fun pos pins s σ H Q I q => h.run pos pins s σ H Q I (k σ H Q q)⟩
theorem PS.weak {st : Stmt} {t t' : TS} (h : PS X st t) (k : ∀ D σ H, t' D σ H → t D σ H) : PS X st t' := ⟨fun pins s σ H D I q => h.run pins s σ H D I (k D σ H q)⟩
theorem PSs.weak {st : List Stmt} {t t' : TS} (h : PSs X st t) (k : ∀ D σ H, t' D σ H → t D σ H) : PSs X st t' := ⟨fun pins s σ H D I q => h.run pins s σ H D I (k D σ H q)⟩
end
end Mp

namespace Mp
open PySem L2

/-! ### operators -/
def LIM : Nat := 1000000
theorem lim_ok {n : Nat} (h : n ≤ LIM) : n ≤ sizeLine := Nat.le_trans h (by decide)
theorem lim_lt {n : Nat} (h : n < LIM) : n < sizeLine := Nat.lt_of_lt_of_le h (by decide)
def R.exact : R → Bool
  | .val _ | .own _ => true
  | .bor _ => false
theorem RR.lstX {K : PySem.W.Frag} {H0 H : Hp} {P : Addr → Prop} {v : V} {r : R} {ds : List D} (h : RR K H0 H P v r) (e : r.d = .lst ds) (x : r.exact = true) : ∃ a vs, v = .ref a ∧ H a = some (.lst vs) ∧ Rps H P vs ds := by
  cases r with
  | val d => cases e; have h' : Rp H P v (.lst ds) := h; simp only [Rp] at h'; obtain ⟨a, vs, h1, _, h2, r⟩ := h'; exact ⟨a, vs, h1, h2, r⟩
  | own d => cases e; obtain ⟨a, h1, h2, h3, vs, h4, h5⟩ := h; exact ⟨a, vs, h1, h4, h5.less fun _ z => .inl z⟩
  | bor d => cases x
def strRep (z : Str) (k : Int) : Str := ⟨(List.replicate k.toNat z.cps.toList).flatten.toArray⟩
def mulOk (i j : Int) : Bool := decide (i.natAbs < 18446744073709551616) || decide (j.natAbs < 18446744073709551616) || decide (i.natAbs.log2 + j.natAbs.log2 < 1000000)
def opAdd (x y : R) : Res R := match x.d, y.d with
  | .int i, .int j => .ok (.val (.int (i + j)))
  | .str a, .str b => if a.length + b.length ≤ LIM then .ok (.val (.str (a ++ b))) else .stuck
  | .lst as, .lst bs => if x.exact && y.exact && decide (as.length + bs.length ≤ LIM) then .ok (.own (.lst (as ++ bs))) else .stuck
  | _, _ => .stuck
def opSub (x y : R) : Res R := match x.d, y.d with
  | .int i, .int j => .ok (.val (.int (i - j)))
  | _, _ => .stuck
def opMul (x y : R) : Res R := match x.d, y.d with
  | .int i, .int j => if mulOk i j then .ok (.val (.int (i * j))) else .stuck
  | .str a, .int k => if decide (0 ≤ k) && decide (k ≤ 1000) && decide (a.length ≤ 1000) then .ok (.val (.str (strRep a k))) else .stuck
  | .lst as, .int k => if x.exact && decide (0 ≤ k) && decide (k ≤ 1000) && decide (as.length ≤ 1000) then .ok (.own (.lst (List.replicate k.toNat as).flatten)) else .stuck
  | _, _ => .stuck
def opDiv (x y : R) : Res R := match x.d, y.d with
  | .int i, .int j => if decide (0 < j) && decide (j.natAbs.log2 < 9000) then .ok (.val (.int (i / j))) else .stuck
  | _, _ => .stuck
def opMod (x y : R) : Res R := match x.d, y.d with
  | .int i, .int j => if decide (0 < j) then .ok (.val (.int (i % j))) else .stuck
  | _, _ => .stuck
def opPow (x y : R) : Res R := match x.d, y.d with
  | .int i, .int j => if decide (0 ≤ j) && decide (j ≤ 1000000) && decide (i.natAbs < 18446744073709551616) then .ok (.val (.int (i ^ j.toNat))) else .stuck
  | _, _ => .stuck
def opBin : Operator → R → R → Res R
  | .Add => opAdd | .Sub => opSub | .Mult => opMul | .FloorDiv => opDiv | .Mod => opMod | .Pow => opPow
  | _ => fun _ _ => .stuck

/-! strOk -/
theorem strOk_append {a b : Str} (ha : strOk a = true) (hb : strOk b = true) : strOk (a ++ b) = true := by
  show (a.cps ++ b.cps).all _ = true
  rw [Array.all_append]
  simp only [Bool.and_eq_true]
  exact ⟨ha, hb⟩
theorem strOk_list {a : Str} : strOk a = true ↔ ∀ c ∈ a.cps.toList, c < 0x110000 := by
  unfold strOk PyData.strOk
  rw [← Array.all_toList, List.all_eq_true]
  simp
theorem strOk_mk {l : List Nat} : strOk ⟨l.toArray⟩ = true ↔ ∀ c ∈ l, c < 0x110000 := by rw [strOk_list]
theorem strOk_rep {z : Str} (h : strOk z = true) (k : Int) : strOk (strRep z k) = true := by
  rw [strOk_list] at h
  rw [strRep, strOk_mk]
  intro c hc
  obtain ⟨l, hl, hc⟩ := List.mem_flatten.mp hc
  rw [List.mem_replicate] at hl
  rw [hl.2] at hc
  exact h c hc
theorem strOk_cut {z : Str} (h : strOk z = true) (lo hi : Option Int) : strOk (cutS z lo hi) = true := by
  rw [strOk_list] at h
  rw [cutS, strOk_mk]
  exact fun c hc => h c (List.mem_of_mem_drop (List.mem_of_mem_take hc))
theorem strOk_sign {z : Str} (h : strOk z = true) {c : Nat} (hc : c ∈ z.cps.toList) : strOk ⟨#[c]⟩ = true := by
  rw [strOk_list] at h
  exact strOk_mk.mpr (fun d hd => by rw [List.mem_singleton.mp hd]; exact h c hc)

section
variable {X : Cx}
/-- a text times an int -/
def rMulS : R2 := fun x y H Q => ∃ z k, x = .str z ∧ y = .int k ∧ 0 ≤ k ∧ k ≤ 1000 ∧ z.length ≤ 1000 ∧ Q (.str (strRep z k)) H
theorem foldl_arr (z : Array Nat) : ∀ (n : Nat) (acc : Array Nat), (List.replicate n z).foldl (· ++ ·) acc = (acc.toList ++ (List.replicate n z.toList).flatten).toArray
  | 0, acc => by simp
  | n + 1, acc => by
    rw [List.replicate_succ, List.foldl_cons, foldl_arr z n, List.replicate_succ, List.flatten_cons, Array.toList_append, List.append_assoc]
theorem op_mulS : OpR X (binaryOp .Mult) rMulS := by
  intro pins s σ H x y v u Q I rx ry h
  obtain ⟨z, k, rfl, rfl, h0, h1, hz, q⟩ := h
  obtain ⟨t, rfl⟩ := rx
  obtain ⟨t', rfl⟩ := ry
  have hk : k.toNat ≤ 1000 := by omega
  have hm : z.length * k.toNat ≤ 1000000 := Nat.le_trans (Nat.mul_le_mul hz hk) (by decide)
  refine PySem.P.mul_str ?_ (fun _ _ => ?_) (fun _ _ => ?_) ?_
  · rw [decide_eq_false (by omega), decide_eq_false (by omega)]; rfl
  · intro hc
    have hk1 : 0 < k := by omega
    have h3 : (2 ^ 63 - 1 : Int) / 1000 ≤ (2 ^ 63 - 1) / k := by
      apply Int.le_ediv_of_mul_le hk1
      have : (2 ^ 63 - 1 : Int) / 1000 * k ≤ (2 ^ 63 - 1 : Int) / 1000 * 1000 := Int.mul_le_mul_of_nonneg_left h1 (by decide)
      have h4 : (2 ^ 63 - 1 : Int) / 1000 * 1000 ≤ 2 ^ 63 - 1 := by decide
      omega
    have h5 : (1000 : Int) ≤ (2 ^ 63 - 1) / 1000 := by decide
    omega
  · show decide _ = false
    exact decide_eq_false (by have : sizeLine = 16777216 := sizeLine_eq; omega)
  · by_cases hk0 : k < 1
    · rw [if_pos hk0]
      have e : strRep z k = Str.empty := by
        unfold strRep
        rw [show k.toNat = 0 by omega]
        rfl
      rw [e] at q
      exact ⟨by decide, ⟨.str _, H, I.tok _, ⟨_, rfl⟩, q⟩⟩
    · rw [if_neg hk0]
      by_cases hk1 : (k == 1 || z.length == 0) = true
      · rw [if_pos hk1]
        have e : strRep z k = z := by
          unfold strRep
          rw [Bool.or_eq_true] at hk1
          rcases hk1 with hk1 | hk1
          · have : k = 1 := by simpa using hk1
            subst this
            simp
          · have hl : z.cps.toList = [] := by
              have : z.cps.size = 0 := by simpa [Str.length] using hk1
              exact List.eq_nil_of_length_eq_zero (by simpa using this)
            rw [hl]
            have : (List.replicate k.toNat ([] : List Nat)).flatten = [] := by simp
            rw [this]
            have z2 : z.cps = #[] := by rw [← Array.toArray_toList (xs := z.cps), hl]
            cases z
            simp at z2
            rw [z2]
        rw [e] at q
        exact ⟨.str _, H, I, ⟨_, rfl⟩, q⟩
      · rw [if_neg hk1]
        have e : (⟨(List.replicate k.toNat z.cps).foldl (· ++ ·) #[]⟩ : Str) = strRep z k := by
          unfold strRep
          rw [foldl_arr]
          simp
        rw [e]
        refine ⟨?_, ⟨.str _, H, I.tok _, ⟨_, rfl⟩, q⟩⟩
        have hl : (strRep z k).length = k.toNat * z.length := by
          unfold strRep Str.length
          simp
        have : sizeLine = 16777216 := sizeLine_eq
        rw [hl, Nat.mul_comm]
        omega

variable {C : Cn} {W : WX} {a b : Expr} {ma mb : Env → Res R} {pos : Pos}
/-- two operands -/
theorem pe_bin {op : Operator} {r : R2} {f : R → R → Res R} (ho : OpR X (binaryOp op) r)
    (hr : ∀ (P : Addr → Prop) (σ : L2.St) (H0 H : Hp) (Q : VK) (v u : V) (x y : R), (∀ a, P a → ∃ o, H a = some o) → RR C.K H0 H P v x → RR C.K H0 H P u y → RW C W P σ H (f x y) Q → r v u H Q)
    (ha : PE X a (tM C W ma)) (hb : PE X b (tM C W mb)) : PE X (.BinOp a op b pos) (tM C W fun ρ => (ma ρ).bind fun x => (mb ρ).bind fun y => f x y) :=
  PE.weak (pe_op ho ha hb) fun σ H Q ⟨ρ, c, S, sr, h⟩ => ⟨ρ, c, S, sr, h.bind.imp fun v H1 ⟨x, e1, rx, h1⟩ => ⟨ρ, c, S, sr.ex e1, h1.bind.imp fun u H2 ⟨y, e2, ry, h2⟩ => hr _ σ H H2 Q v u x y (((sr.ex e1).ex e2).trk) (rx.mono (Ex.refl _) e2) (ry.mono e1 (Ex.refl _)) h2⟩⟩
theorem pe_cmpB {op : CmpOp} {r : R2} {f : R → R → Res R} (ho : OpR X (compareOp op) r)
    (hr : ∀ (P : Addr → Prop) (σ : L2.St) (H0 H : Hp) (Q : VK) (v u : V) (x y : R), (∀ a, P a → ∃ o, H a = some o) → RR C.K H0 H P v x → RR C.K H0 H P u y → RW C W P σ H (f x y) Q → r v u H Q)
    (ha : PE X a (tM C W ma)) (hb : PE X b (tM C W mb)) (hm : behindInMarks op b = false) : PE X (.Compare a [op] [b] pos) (tM C W fun ρ => (ma ρ).bind fun x => (mb ρ).bind fun y => f x y) :=
  PE.weak (pe_cmpR ho ha hb hm) fun σ H Q ⟨ρ, c, S, sr, h⟩ => ⟨ρ, c, S, sr, h.bind.imp fun v H1 ⟨x, e1, rx, h1⟩ => ⟨ρ, c, S, sr.ex e1, h1.bind.imp fun u H2 ⟨y, e2, ry, h2⟩ => hr _ σ H H2 Q v u x y (((sr.ex e1).ex e2).trk) (rx.mono (Ex.refl _) e2) (ry.mono e1 (Ex.refl _)) h2⟩⟩
/-- what a new list's laying asks -/
theorem rw_new {P : Addr → Prop} {σ : L2.St} {H : Hp} {Q : VK} {ds : List D} {vs : List V} (h : RW C W P σ H (.ok (.own (.lst ds))) Q) (r : Rps H P vs ds) (hP : ∀ a, P a → ∃ o, H a = some o) : ∀ p, H p = none → Q (.ref p) (upd H p (.lst vs)) := by
  intro p hp
  refine h (.ref p) (upd H p (.lst vs)) (Ex.new hp) ⟨p, rfl, hp, fun z => ?_, vs, upd_same, (r.fresh hp).ex (Ex.new hp)⟩
  obtain ⟨o, q⟩ := hP p z
  rw [hp] at q
  cases q
end
end Mp

namespace Mp
open PySem L2

/-! ### equality of data -/
mutual
def D.py : D → PyData
  | .non => .none
  | .bl b => .bool b
  | .int i => .int i
  | .str x => .str x
  | .tup ds => .tuple (pys ds)
  | .lst ds => .list (pys ds)
  | .dct _ _ _ => .dict []
def pys : List D → List PyData
  | [] => []
  | d :: ds => d.py :: pys ds
end
mutual
/-- no dict in it -/
def noD : D → Bool
  | .tup ds | .lst ds => noDs ds
  | .dct _ _ _ => false
  | _ => true
def noDs : List D → Bool
  | [] => true
  | d :: ds => noD d && noDs ds
end
mutual
def dep : D → Nat
  | .tup ds | .lst ds => deps ds + 1
  | .dct _ _ ds => deps ds + 1
  | _ => 0
def deps : List D → Nat
  | [] => 0
  | d :: ds => max (dep d) (deps ds)
end
mutual
def deq : D → D → Bool
  | .non, .non => true
  | .bl a, .bl b => a == b
  | .bl a, .int j => (if a then 1 else 0) == j
  | .int i, .bl b => i == (if b then 1 else 0)
  | .int i, .int j => i == j
  | .str x, .str y => x == y
  | .tup as, .tup bs => deqs as bs
  | .lst as, .lst bs => deqs as bs
  | _, _ => false
def deqs : List D → List D → Bool
  | [], [] => true
  | a :: as, b :: bs => deq a b && deqs as bs
  | _, _ => false
end
mutual
theorem eqv_py : ∀ a b : D, PyData.eqv a.py b.py = deq a b
  | .non, b => by cases b <;> simp [D.py, PyData.eqv, deq]
  | .bl x, b => by cases b <;> simp [D.py, PyData.eqv, deq]
  | .int i, b => by cases b <;> simp [D.py, PyData.eqv, deq]
  | .str x, b => by cases b <;> simp [D.py, PyData.eqv, deq]
  | .tup as, .tup bs => by simp only [D.py, PyData.eqv, deq]; exact eqvs_py as bs
  | .lst as, .lst bs => by simp only [D.py, PyData.eqv, deq]; exact eqvs_py as bs
  | .tup as, .non | .tup as, .bl _ | .tup as, .int _ | .tup as, .str _ | .tup as, .lst _ | .tup as, .dct _ _ _ => by simp [D.py, PyData.eqv, deq]
  | .lst as, .non | .lst as, .bl _ | .lst as, .int _ | .lst as, .str _ | .lst as, .tup _ | .lst as, .dct _ _ _ => by simp [D.py, PyData.eqv, deq]
  | .dct _ _ _, b => by cases b <;> simp [D.py, PyData.eqv, deq]
theorem eqvs_py : ∀ as bs : List D, PyData.eqvAll (pys as) (pys bs) = deqs as bs
  | [], [] => by simp [pys, PyData.eqvAll, deqs]
  | [], _ :: _ => by simp [pys, PyData.eqvAll, deqs]
  | _ :: _, [] => by simp [pys, PyData.eqvAll, deqs]
  | a :: as, b :: bs => by simp only [pys, PyData.eqvAll, deqs, eqv_py a b, eqvs_py as bs]
end
theorem pys_map : ∀ ds : List D, pys ds = ds.map D.py
  | [] => rfl
  | d :: ds => by simp only [pys, List.map_cons, pys_map ds]
mutual
theorem dep_py : ∀ d : D, noD d = true → d.py.depth = dep d
  | .non, _ | .bl _, _ | .int _, _ | .str _, _ => by simp [D.py, PyData.depth, dep]
  | .tup ds, h => by simp only [noD] at h; simp only [D.py, PyData.depth, dep]; rw [deps_py ds h]
  | .lst ds, h => by simp only [noD] at h; simp only [D.py, PyData.depth, dep]; rw [deps_py ds h]
  | .dct _ _ _, h => by simp [noD] at h
theorem deps_py : ∀ ds : List D, noDs ds = true → PyData.depthAll (pys ds) = deps ds
  | [], _ => by simp [pys, PyData.depthAll, deps]
  | d :: ds, h => by
    simp only [noDs, Bool.and_eq_true] at h
    simp only [pys, PyData.depthAll, deps]
    rw [dep_py d h.1, deps_py ds h.2]
end
theorem rp_str {H : Hp} {P : Addr → Prop} {x : Str} (h : strOk x = true) : Rp H P (.str x) (.str x) := by simp only [Rp]; exact ⟨trivial, h⟩
mutual
theorem Rp.dp {K : PySem.W.Frag} {H : Hp} {P : Addr → Prop} : ∀ {d : D} {v : V}, Rp H P v d → noD d = true → Dp K H v d.py ∧ d.py.canLay0 = true
  | .non, v, h, _ => by simp only [Rp] at h; subst h; exact ⟨.non, by simp [D.py, PyData.canLay0]⟩
  | .bl b, v, h, _ => by simp only [Rp] at h; subst h; exact ⟨.bl b, by simp [D.py, PyData.canLay0]⟩
  | .int i, v, h, _ => by simp only [Rp] at h; subst h; exact ⟨.int i, by simp [D.py, PyData.canLay0]⟩
  | .str x, v, h, _ => by simp only [Rp] at h; obtain ⟨rfl, h⟩ := h; exact ⟨.str x, by simp only [D.py, PyData.canLay0]; exact h⟩
  | .tup ds, v, h, n => by
    simp only [Rp] at h
    simp only [noD] at n
    obtain ⟨a, vs, rfl, _, t, r⟩ := h
    obtain ⟨r1, r2⟩ := Rps.dp (K := K) r n
    exact ⟨.tup (SqT.of t) r1, by simp only [D.py, PyData.canLay0]; exact r2⟩
  | .lst ds, v, h, n => by
    simp only [Rp] at h
    simp only [noD] at n
    obtain ⟨a, vs, rfl, _, t, r⟩ := h
    obtain ⟨r1, r2⟩ := Rps.dp (K := K) r n
    exact ⟨.lst (SqL.of t) r1, by simp only [D.py, PyData.canLay0]; exact r2⟩
  | .dct _ _ _, v, h, n => by simp [noD] at n
theorem Rps.dp {K : PySem.W.Frag} {H : Hp} {P : Addr → Prop} : ∀ {ds : List D} {vs : List V}, Rps H P vs ds → noDs ds = true → DpAll K H vs (pys ds) ∧ PyData.canLayAll0 (pys ds) = true
  | [], [], _, _ => ⟨.nil, by simp [pys, PyData.canLayAll0]⟩
  | [], _ :: _, h, _ => by simp [Rps] at h
  | _ :: _, [], h, _ => by simp [Rps] at h
  | d :: ds, v :: vs, h, n => by
    simp only [Rps] at h
    simp only [noDs, Bool.and_eq_true] at n
    obtain ⟨r1, r2⟩ := Rp.dp (K := K) h.1 n.1
    obtain ⟨s1, s2⟩ := Rps.dp (K := K) h.2 n.2
    exact ⟨.cons r1 s1, by simp only [pys, PyData.canLayAll0, r2, s2, Bool.and_self]⟩
end
theorem RR.dp {K : PySem.W.Frag} {H0 H : Hp} {P : Addr → Prop} {v : V} {r : R} (h : RR K H0 H P v r) (n : noD r.d = true) : Dp K H v r.d.py ∧ r.d.py.canLay0 = true := by
  by_cases s : isSc r.d = true
  · exact (h.sc s).dp n
  · have q := h.lent (by simpa using s)
    cases e : r.d with
    | lst ds =>
      rw [e] at q n
      obtain ⟨a, vs, rfl, t, r⟩ := q
      simp only [noD] at n
      obtain ⟨r1, r2⟩ := Rps.dp (K := K) r n
      exact ⟨.lst t r1, by simp only [D.py, PyData.canLay0]; exact r2⟩
    | tup ds =>
      rw [e] at q n
      obtain ⟨a, vs, rfl, t, r⟩ := q
      simp only [noD] at n
      obtain ⟨r1, r2⟩ := Rps.dp (K := K) r n
      exact ⟨.tup t r1, by simp only [D.py, PyData.canLay0]; exact r2⟩
    | dct tk ks ds => rw [e] at n; simp [noD] at n
    | _ => rw [e] at s; simp [isSc] at s

/-! ### comparisons -/
def b2r (b : Bool) : Res R := .ok (.val (.bl b))
/-- data of two sides that may be compared -/
def eqOk (a b : D) : Bool := noD a && noD b && (decide (dep a ≤ 150) || decide (dep b ≤ 150))
def cpEq (x y : R) : Res R := if eqOk x.d y.d then b2r (deq x.d y.d) else .stuck
def cpNe (x y : R) : Res R := if eqOk x.d y.d then b2r (!deq x.d y.d) else .stuck
def strLt (a b : Str) : Bool := decide (a.cps.toList < b.cps.toList)
def cpLt (x y : R) : Res R := match x.d, y.d with
  | .int i, .int j => b2r (decide (i < j))
  | .str a, .str b => b2r (strLt a b)
  | _, _ => .stuck
def cpLe (x y : R) : Res R := match x.d, y.d with
  | .int i, .int j => b2r (decide (i ≤ j))
  | _, _ => .stuck
def cpGt (x y : R) : Res R := match x.d, y.d with
  | .int i, .int j => b2r (decide (j < i))
  | _, _ => .stuck
def cpGe (x y : R) : Res R := match x.d, y.d with
  | .int i, .int j => b2r (decide (j ≤ i))
  | _, _ => .stuck
def isNon : D → Bool
  | .non => true
  | _ => false
def cpIs (x y : R) : Res R := if isNon y.d then b2r (isNon x.d) else .stuck
def cpIsNot (x y : R) : Res R := if isNon y.d then b2r (!isNon x.d) else .stuck
/-- a text in a text -/
def strIn (x z : Str) : Bool := !(Builtin.Str.occurrences z x 0 z.length 1).isEmpty
def keyD : D → Option Key
  | .int i => some (.inl i)
  | .str x => some (.inr x)
  | _ => none
def keysD : List D → Option (List Key)
  | [] => some []
  | d :: ds => match keyD d, keysD ds with
    | some k, some ks => some (k :: ks)
    | _, _ => none
def inD (x : D) (ds : List D) : Bool := ds.any fun y => deq y x
def opIn (x y : R) : Res Bool := match x.d, y.d with
  | .str a, .str b => .ok (strIn a b)
  | d, .lst ds => if eqOk d (.lst ds) then .ok (inD d ds) else .stuck
  | d, .tup ds => if eqOk d (.tup ds) then .ok (inD d ds) else .stuck
  | _, _ => .stuck
def cpIn (x y : R) : Res R := match opIn x y with
  | .ok b => b2r b
  | _ => .stuck
def cpNin (x y : R) : Res R := match opIn x y with
  | .ok b => b2r (!b)
  | _ => .stuck
def opCmp : CmpOp → R → R → Res R
  | .Eq => cpEq | .NotEq => cpNe | .Lt => cpLt | .LtE => cpLe | .Gt => cpGt | .GtE => cpGe | .Is => cpIs | .IsNot => cpIsNot | .In => cpIn | .NotIn => cpNin
section
variable {X : Cx}
def rEqX (K : PySem.W.Frag) : R2 := fun x y H Q => ∃ d e, Dp K H x d ∧ Dp K H y e ∧ d.canLay0 = true ∧ e.canLay0 = true ∧ min d.depth e.depth ≤ 150 ∧ Q (.bl (PyData.eqv d e)) H
def rNeX (K : PySem.W.Frag) : R2 := fun x y H Q => ∃ d e, Dp K H x d ∧ Dp K H y e ∧ d.canLay0 = true ∧ e.canLay0 = true ∧ min d.depth e.depth ≤ 150 ∧ Q (.bl (!PyData.eqv d e)) H
theorem op_eqX (hu : X.A.units + 200 < cLine) : OpR X (compareOp .Eq) (rEqX X.K) := by
  intro pins s σ H x y v u Q I rx ry h
  obtain ⟨d, e, hd, he, sd, se, hm, q⟩ := h
  obtain ⟨as, r1⟩ := Dp.reads I d x v hd rx
  obtain ⟨bs, r2⟩ := Dp.reads I e y u he ry
  exact SeqAt.compareEq_reads r1 r2 sd se (by omega) ⟨.bl _, H, I, rfl, q⟩
theorem op_neX (hu : X.A.units + 200 < cLine) : OpR X (compareOp .NotEq) (rNeX X.K) := by
  intro pins s σ H x y v u Q I rx ry h
  obtain ⟨d, e, hd, he, sd, se, hm, q⟩ := h
  obtain ⟨as, r1⟩ := Dp.reads I d x v hd rx
  obtain ⟨bs, r2⟩ := Dp.reads I e y u he ry
  exact SeqAt.compareNe_reads r1 r2 sd se (by omega) ⟨.bl _, H, I, rfl, q⟩
theorem eqOk_dep {a b : D} (h : eqOk a b = true) : noD a = true ∧ noD b = true ∧ min a.py.depth b.py.depth ≤ 150 := by
  unfold eqOk at h
  rw [Bool.and_eq_true, Bool.and_eq_true, Bool.or_eq_true] at h
  obtain ⟨⟨h1, h2⟩, h3⟩ := h
  refine ⟨h1, h2, ?_⟩
  have e1 := dep_py a h1
  have e2 := dep_py b h2
  rw [e1, e2]
  rcases h3 with h3 | h3
  · have := of_decide_eq_true h3; omega
  · have := of_decide_eq_true h3; omega
def rInX (K : PySem.W.Frag) : R2 := fun x y H Q => (∃ d ds, Dp K H x d ∧ (Dp K H y (.list ds) ∨ Dp K H y (.tuple ds)) ∧ d.canLay0 = true ∧ PyData.canLayAll0 ds = true ∧ min (PyData.depthAll ds) d.depth ≤ 150 ∧ Q (.bl (ds.any fun z => PyData.eqv z d)) H)
theorem op_inX (hu : X.A.units + 200 < cLine) : OpR X (compareOp .In) (rInX X.K) := by
  intro pins s σ H x y v u Q I rx ry h
  obtain ⟨d, ds, hd, he, sd, se, hm, q⟩ := h
  obtain ⟨as, r1⟩ := Dp.reads I d x v hd rx
  rcases he with he | he
  · obtain ⟨bs, r2⟩ := Dp.reads I _ y u he ry
    exact SeqAt.in_list_reads r2 r1 se sd (by omega) ⟨.bl _, H, I, rfl, q⟩
  · obtain ⟨bs, r2⟩ := Dp.reads I _ y u he ry
    exact SeqAt.in_tuple_reads r2 r1 se sd (by omega) ⟨.bl _, H, I, rfl, q⟩
def rNinX (K : PySem.W.Frag) : R2 := fun x y H Q => (∃ d ds, Dp K H x d ∧ (Dp K H y (.list ds) ∨ Dp K H y (.tuple ds)) ∧ d.canLay0 = true ∧ PyData.canLayAll0 ds = true ∧ min (PyData.depthAll ds) d.depth ≤ 150 ∧ Q (.bl (!ds.any fun z => PyData.eqv z d)) H)
theorem op_ninX (hu : X.A.units + 200 < cLine) : OpR X (compareOp .NotIn) (rNinX X.K) := by
  intro pins s σ H x y v u Q I rx ry h
  obtain ⟨d, ds, hd, he, sd, se, hm, q⟩ := h
  obtain ⟨as, r1⟩ := Dp.reads I d x v hd rx
  rcases he with he | he
  · obtain ⟨bs, r2⟩ := Dp.reads I _ y u he ry
    exact SeqAt.notIn_list_reads r2 r1 se sd (by omega) ⟨.bl _, H, I, rfl, q⟩
  · obtain ⟨bs, r2⟩ := Dp.reads I _ y u he ry
    exact SeqAt.notIn_tuple_reads r2 r1 se sd (by omega) ⟨.bl _, H, I, rfl, q⟩
end
section
variable {X : Cx} {C : Cn} {W : WX} {a b : Expr} {ma mb : Env → Res R} {pos : Pos}
theorem rw_val {P : Addr → Prop} {σ : L2.St} {H : Hp} {Q : VK} {d : D} {v : V} (h : RW C W P σ H (.ok (.val d)) Q) (r : Rp H P v d) : Q v H := h v H (Ex.refl _) r
theorem rw_bl {P : Addr → Prop} {σ : L2.St} {H : Hp} {Q : VK} {b : Bool} (h : RW C W P σ H (b2r b) Q) : Q (.bl b) H := rw_val h (by simp [Rp])
theorem any_py (x : D) (ds : List D) : ((pys ds).any fun z => PyData.eqv z x.py) = inD x ds := by
  unfold inD
  rw [pys_map, List.any_map]
  congr 1
  funext y
  exact eqv_py y x
/-- the rule of one comparison: what its reading asks is given by what it means -/
def CmpGives (C : Cn) (op : CmpOp) (r : R2) : Prop := ∀ (W : WX) (P : Addr → Prop) (σ : L2.St) (H0 H : Hp) (Q : VK) (v u : V) (x y : R), (∀ a, P a → ∃ o, H a = some o) → RR C.K H0 H P v x → RR C.K H0 H P u y → RW C W P σ H (opCmp op x y) Q → r v u H Q
theorem gv_eq : CmpGives C .Eq (rEqX C.K) := by
  intro W P σ H0 H Q v u x y hP rx ry h
  simp only [opCmp, cpEq] at h
  split at h
  · next c =>
    obtain ⟨n1, n2, hm⟩ := eqOk_dep c
    obtain ⟨d1, d2⟩ := rx.dp n1
    obtain ⟨e1, e2⟩ := ry.dp n2
    exact ⟨_, _, d1, e1, d2, e2, hm, by rw [eqv_py]; exact rw_bl h⟩
  · exact h.elim
theorem gv_ne : CmpGives C .NotEq (rNeX C.K) := by
  intro W P σ H0 H Q v u x y hP rx ry h
  simp only [opCmp, cpNe] at h
  split at h
  · next c =>
    obtain ⟨n1, n2, hm⟩ := eqOk_dep c
    obtain ⟨d1, d2⟩ := rx.dp n1
    obtain ⟨e1, e2⟩ := ry.dp n2
    exact ⟨_, _, d1, e1, d2, e2, hm, by rw [eqv_py]; exact rw_bl h⟩
  · exact h.elim
def rLtX : R2 := fun x y H Q => (rI0 fun i j => .bl (decide (i < j))) x y H Q ∨ ∃ i j, x = .str i ∧ y = .str j ∧ Q (.bl (decide (i.cps.toList < j.cps.toList))) H
theorem gv_lt : CmpGives C .Lt rLtX := by
  intro W P σ H0 H Q v u x y hP rx ry h
  simp only [opCmp, cpLt] at h
  split at h
  · next i j e1 e2 => exact .inl ⟨i, j, rx.int e1, ry.int e2, rw_bl h⟩
  · next i j e1 e2 => exact .inr ⟨i, j, (rx.str e1).1, (ry.str e2).1, rw_bl h⟩
  · exact h.elim
theorem gv_le : CmpGives C .LtE (rI0 fun i j => .bl (decide (i ≤ j))) := by
  intro W P σ H0 H Q v u x y hP rx ry h
  simp only [opCmp, cpLe] at h
  split at h
  · next i j e1 e2 => exact ⟨i, j, rx.int e1, ry.int e2, rw_bl h⟩
  · exact h.elim
theorem gv_gt : CmpGives C .Gt (rI0 fun i j => .bl (decide (j < i))) := by
  intro W P σ H0 H Q v u x y hP rx ry h
  simp only [opCmp, cpGt] at h
  split at h
  · next i j e1 e2 => exact ⟨i, j, rx.int e1, ry.int e2, rw_bl h⟩
  · exact h.elim
theorem gv_ge : CmpGives C .GtE (rI0 fun i j => .bl (decide (j ≤ i))) := by
  intro W P σ H0 H Q v u x y hP rx ry h
  simp only [opCmp, cpGe] at h
  split at h
  · next i j e1 e2 => exact ⟨i, j, rx.int e1, ry.int e2, rw_bl h⟩
  · exact h.elim
theorem isNon_eq {d : D} (h : isNon d = true) : d = .non := by cases d <;> simp [isNon] at h <;> rfl
theorem RR.isN {K : PySem.W.Frag} {H0 H : Hp} {P : Addr → Prop} {v : V} {r : R} (h : RR K H0 H P v r) : decide (v = .non) = isNon r.d := by
  by_cases s : isSc r.d = true
  · have q := h.sc s
    cases e : r.d with
    | str x => rw [e] at q; simp only [Rp] at q; obtain ⟨rfl, _⟩ := q; simp [isNon]
    | non => rw [e] at q; simp only [Rp] at q; subst q; simp [isNon]
    | bl b => rw [e] at q; simp only [Rp] at q; subst q; simp [isNon]
    | int b => rw [e] at q; simp only [Rp] at q; subst q; simp [isNon]
    | _ => rw [e] at s; simp [isSc] at s
  · have q := h.lent (by simpa using s)
    cases e : r.d with
    | lst ds => rw [e] at q; obtain ⟨a, vs, rfl, _⟩ := q; simp [isNon]
    | tup ds => rw [e] at q; obtain ⟨a, vs, rfl, _⟩ := q; simp [isNon]
    | dct tk ks ds => rw [e] at q; cases tk <;> (obtain ⟨a, vs, rfl, _⟩ := q; simp [isNon])
    | _ => rw [e] at s; simp [isSc] at s
theorem gv_is : CmpGives C .Is (fun x y H Q => y = .non ∧ Q (.bl (decide (x = .non))) H) := by
  intro W P σ H0 H Q v u x y hP rx ry h
  simp only [opCmp, cpIs] at h
  split at h
  · next c => exact ⟨ry.non (isNon_eq c), by rw [rx.isN]; exact rw_bl h⟩
  · exact h.elim
theorem gv_isnot : CmpGives C .IsNot (fun x y H Q => y = .non ∧ Q (.bl (!decide (x = .non))) H) := by
  intro W P σ H0 H Q v u x y hP rx ry h
  simp only [opCmp, cpIsNot] at h
  split at h
  · next c => exact ⟨ry.non (isNon_eq c), by rw [rx.isN]; exact rw_bl h⟩
  · exact h.elim
def rInA (K : PySem.W.Frag) : R2 := fun x y H Q => (∃ i j, x = .str i ∧ y = .str j ∧ Q (.bl (!(Builtin.Str.occurrences j i 0 j.length 1).isEmpty)) H) ∨ rInX K x y H Q
def rNinA (K : PySem.W.Frag) : R2 := fun x y H Q => (∃ i j, x = .str i ∧ y = .str j ∧ Q (.bl (!(!(Builtin.Str.occurrences j i 0 j.length 1).isEmpty))) H) ∨ rNinX K x y H Q
theorem in_gives {P : Addr → Prop} {H0 H : Hp} {v u : V} {x y : R} {b : Bool} (rx : RR C.K H0 H P v x) (ry : RR C.K H0 H P u y) (h : opIn x y = .ok b) :
    (∃ i j, v = .str i ∧ u = .str j ∧ b = !(Builtin.Str.occurrences j i 0 j.length 1).isEmpty) ∨ ∃ d ds, Dp C.K H v d ∧ (Dp C.K H u (.list ds) ∨ Dp C.K H u (.tuple ds)) ∧ d.canLay0 = true ∧ PyData.canLayAll0 ds = true ∧ min (PyData.depthAll ds) d.depth ≤ 150 ∧ b = ds.any fun z => PyData.eqv z d := by
  have mn : ∀ {d : D} {ds : List D}, min d.py.depth (PyData.depthAll (pys ds) + 1) ≤ 150 → min (PyData.depthAll (pys ds)) d.py.depth ≤ 150 := fun h => by omega
  unfold opIn at h
  split at h
  · next a b' e1 e2 =>
    cases h
    exact .inl ⟨a, b', (rx.str e1).1, (ry.str e2).1, rfl⟩
  · next ds e2 =>
    split at h
    · next c =>
      cases h
      obtain ⟨n1, n2, hm⟩ := eqOk_dep c
      obtain ⟨d1, d2⟩ := rx.dp n1
      obtain ⟨e1', e2'⟩ := ry.dp (by rw [e2]; exact n2)
      rw [e2] at e1' e2'
      simp only [D.py] at e1' e2'
      simp only [D.py, PyData.depth] at hm
      simp only [PyData.canLay0] at e2'
      exact .inr ⟨_, _, d1, .inl e1', d2, e2', mn hm, (any_py _ _).symm⟩
    · cases h
  · next ds e2 =>
    split at h
    · next c =>
      cases h
      obtain ⟨n1, n2, hm⟩ := eqOk_dep c
      obtain ⟨d1, d2⟩ := rx.dp n1
      obtain ⟨e1', e2'⟩ := ry.dp (by rw [e2]; exact n2)
      rw [e2] at e1' e2'
      simp only [D.py] at e1' e2'
      simp only [D.py, PyData.depth] at hm
      simp only [PyData.canLay0] at e2'
      exact .inr ⟨_, _, d1, .inr e1', d2, e2', mn hm, (any_py _ _).symm⟩
    · cases h
  · cases h
theorem gv_in : CmpGives C .In (rInA C.K) := by
  intro W P σ H0 H Q v u x y hP rx ry h
  simp only [opCmp, cpIn] at h
  split at h
  · next b e =>
    have q := rw_bl h
    rcases in_gives rx ry e with ⟨i, j, h1, h2, rfl⟩ | ⟨d, ds, h1, h2, h3, h4, h5, rfl⟩
    · exact .inl ⟨i, j, h1, h2, q⟩
    · exact .inr ⟨d, ds, h1, h2, h3, h4, h5, q⟩
  · exact h.elim
theorem gv_nin : CmpGives C .NotIn (rNinA C.K) := by
  intro W P σ H0 H Q v u x y hP rx ry h
  simp only [opCmp, cpNin] at h
  split at h
  · next b e =>
    have q := rw_bl h
    rcases in_gives rx ry e with ⟨i, j, h1, h2, rfl⟩ | ⟨d, ds, h1, h2, h3, h4, h5, rfl⟩
    · exact .inl ⟨i, j, h1, h2, q⟩
    · exact .inr ⟨d, ds, h1, h2, h3, h4, h5, q⟩
  · exact h.elim
/-- the reading of each comparison -/
def rCmp (K : PySem.W.Frag) : CmpOp → R2
  | .Eq => rEqX K | .NotEq => rNeX K | .Lt => rLtX | .LtE => rI0 fun i j => .bl (decide (i ≤ j)) | .Gt => rI0 fun i j => .bl (decide (j < i)) | .GtE => rI0 fun i j => .bl (decide (j ≤ i))
  | .Is => fun x y H Q => y = .non ∧ Q (.bl (decide (x = .non))) H | .IsNot => fun x y H Q => y = .non ∧ Q (.bl (!decide (x = .non))) H | .In => rInA K | .NotIn => rNinA K
theorem gv_cmp : ∀ op, CmpGives C op (rCmp C.K op)
  | .Eq => gv_eq | .NotEq => gv_ne | .Lt => gv_lt | .LtE => gv_le | .Gt => gv_gt | .GtE => gv_ge | .Is => gv_is | .IsNot => gv_isnot | .In => gv_in | .NotIn => gv_nin
theorem opR_cmp (hu : X.A.units + 200 < cLine) : ∀ op, OpR X (compareOp op) (rCmp X.K op)
  | .Eq => op_eqX hu | .NotEq => op_neX hu | .Lt => op_lt.or op_lt_str | .LtE => op_le | .Gt => op_gt | .GtE => op_ge | .Is => op_isN | .IsNot => op_notN | .In => op_in_str.or (op_inX hu) | .NotIn => op_notIn_str.or (op_ninX hu)
theorem pe_compare {op : CmpOp} (hK : X.K = C.K) (hu : X.A.units + 200 < cLine) (ha : PE X a (tM C W ma)) (hb : PE X b (tM C W mb)) (hm : behindInMarks op b = false) :
    PE X (.Compare a [op] [b] pos) (tM C W fun ρ => (ma ρ).bind fun x => (mb ρ).bind fun y => opCmp op x y) :=
  pe_cmpB (opR_cmp hu op) (fun P σ H0 H Q v u x y hP rx ry h => by rw [hK]; exact gv_cmp op W P σ H0 H Q v u x y hP rx ry h) ha hb hm

/-! ### arithmetic -/
def rAddX : R2 := fun x y H Q => (rI0 fun i j => .int (i + j)) x y H Q ∨ (∃ i j, x = .str i ∧ y = .str j ∧ i.length + j.length ≤ sizeLine ∧ Q (.str (i ++ j)) H) ∨ rCat x y H Q
def rMulX : R2 := fun x y H Q => (rI CMul fun i j => .int (i * j)) x y H Q ∨ (rI CMulW fun i j => .int (i * j)) x y H Q ∨ rMulS x y H Q ∨ rRep x y H Q
def rBin : Operator → R2
  | .Add => rAddX | .Sub => rI0 fun i j => .int (i - j) | .Mult => rMulX | .FloorDiv => rI CDivW fun i j => .int (i / j) | .Mod => rI (fun _ j => 0 < j) fun i j => .int (i % j) | .Pow => rI CPow fun i j => .int (i ^ j.toNat)
  | _ => fun _ _ _ _ => False
theorem opR_bin : ∀ op, OpR X (binaryOp op) (rBin op)
  | .Add => op_add.or (op_add_str.or op_cat) | .Sub => op_sub | .Mult => op_mul.or (op_mulW.or (op_mulS.or op_rep)) | .FloorDiv => op_fdivW | .Mod => op_mod | .Pow => op_pow
  | .Div | .MatMult | .LShift | .RShift | .BitOr | .BitXor | .BitAnd => fun _ _ _ _ _ _ _ _ _ _ _ _ h => h.elim
theorem mulOk_of {i j : Int} (h : mulOk i j = true) : CMul i j ∨ CMulW i j := by
  unfold mulOk at h
  rw [Bool.or_eq_true, Bool.or_eq_true] at h
  rcases h with (h | h) | h
  · have := of_decide_eq_true h
    exact .inl (.inl (by omega))
  · have := of_decide_eq_true h
    exact .inl (.inr (by omega))
  · exact .inr (show i.natAbs.log2 + j.natAbs.log2 < 1000000 from of_decide_eq_true h)
theorem len_app (a b : Str) : (a ++ b).length = a.length + b.length := by
  show (a.cps ++ b.cps).size = _
  simp [Str.length]
theorem Rps.rep {H : Hp} {P : Addr → Prop} {vs : List V} {ds : List D} (h : Rps H P vs ds) : ∀ n : Nat, Rps H P (List.replicate n vs).flatten (List.replicate n ds).flatten
  | 0 => by simp [Rps]
  | n + 1 => by
    rw [List.replicate_succ, List.replicate_succ, List.flatten_cons, List.flatten_cons]
    exact h.append (Rps.rep h n)
theorem gv_bin (op : Operator) (P : Addr → Prop) (σ : L2.St) (H0 H : Hp) (Q : VK) (v u : V) (x y : R) (hP : ∀ a, P a → ∃ o, H a = some o) (rx : RR C.K H0 H P v x) (ry : RR C.K H0 H P u y) (h : RW C W P σ H (opBin op x y) Q) : rBin op v u H Q := by
  cases op with
  | Add =>
    simp only [opBin, opAdd] at h
    split at h
    · next i j e1 e2 => exact .inl ⟨i, j, rx.int e1, ry.int e2, rw_val h (by simp [Rp])⟩
    · next i j e1 e2 =>
      split at h
      · next c =>
        obtain ⟨r1, s1⟩ := rx.str e1
        obtain ⟨r2, s2⟩ := ry.str e2
        exact .inr (.inl ⟨i, j, r1, r2, lim_ok c, rw_val h (rp_str (strOk_append s1 s2))⟩)
      · exact h.elim
    · next as bs e1 e2 =>
      split at h
      · next c =>
        rw [Bool.and_eq_true, Bool.and_eq_true] at c
        obtain ⟨a, vs, r1, t1, q1⟩ := rx.lstX e1 c.1.1
        obtain ⟨b, ws, r2, t2, q2⟩ := ry.lstX e2 c.1.2
        exact .inr (.inr ⟨a, b, vs, ws, r1, r2, t1, t2, by rw [q1.length, q2.length]; exact lim_ok (of_decide_eq_true c.2), rw_new h (q1.append q2) hP⟩)
      · exact h.elim
    · exact h.elim
  | Sub =>
    simp only [opBin, opSub] at h
    split at h
    · next i j e1 e2 => exact ⟨i, j, rx.int e1, ry.int e2, rw_val h (by simp [Rp])⟩
    · exact h.elim
  | Mult =>
    simp only [opBin, opMul] at h
    split at h
    · next i j e1 e2 =>
      split at h
      · next c =>
        rcases mulOk_of c with c | c
        · exact .inl ⟨i, j, rx.int e1, ry.int e2, c, rw_val h (by simp [Rp])⟩
        · exact .inr (.inl ⟨i, j, rx.int e1, ry.int e2, c, rw_val h (by simp [Rp])⟩)
      · exact h.elim
    · next z k e1 e2 =>
      split at h
      · next c =>
        rw [Bool.and_eq_true, Bool.and_eq_true] at c
        obtain ⟨r1, s1⟩ := rx.str e1
        exact .inr (.inr (.inl ⟨z, k, r1, ry.int e2, of_decide_eq_true c.1.1, of_decide_eq_true c.1.2, of_decide_eq_true c.2, rw_val h (rp_str (strOk_rep s1 k))⟩))
      · exact h.elim
    · next as k e1 e2 =>
      split at h
      · next c =>
        rw [Bool.and_eq_true, Bool.and_eq_true, Bool.and_eq_true] at c
        obtain ⟨a, vs, r1, t1, q1⟩ := rx.lstX e1 c.1.1.1
        have c1 := of_decide_eq_true c.1.1.2
        have c2 := of_decide_eq_true c.1.2
        have c3 := of_decide_eq_true c.2
        have hk : k.toNat ≤ 1000 := by omega
        refine .inr (.inr (.inr ⟨a, k, vs, r1, ry.int e2, t1, by omega, by omega, ?_, rw_new h (q1.rep _) hP⟩))
        rw [q1.length]
        exact lim_ok (Nat.le_trans (Nat.mul_le_mul c3 hk) (by decide))
      · exact h.elim
    · exact h.elim
  | FloorDiv =>
    simp only [opBin, opDiv] at h
    split at h
    · next i j e1 e2 =>
      split at h
      · next c =>
        rw [Bool.and_eq_true] at c
        exact ⟨i, j, rx.int e1, ry.int e2, ⟨of_decide_eq_true c.1, of_decide_eq_true c.2⟩, rw_val h (by simp [Rp])⟩
      · exact h.elim
    · exact h.elim
  | Mod =>
    simp only [opBin, opMod] at h
    split at h
    · next i j e1 e2 =>
      split at h
      · next c => exact ⟨i, j, rx.int e1, ry.int e2, of_decide_eq_true c, rw_val h (by simp [Rp])⟩
      · exact h.elim
    · exact h.elim
  | Pow =>
    simp only [opBin, opPow] at h
    split at h
    · next i j e1 e2 =>
      split at h
      · next c =>
        rw [Bool.and_eq_true, Bool.and_eq_true] at c
        exact ⟨i, j, rx.int e1, ry.int e2, ⟨of_decide_eq_true c.1.1, of_decide_eq_true c.1.2, of_decide_eq_true c.2⟩, rw_val h (by simp [Rp])⟩
      · exact h.elim
    · exact h.elim
  | _ => exact h.elim
theorem pe_binop {op : Operator} (hK : X.K = C.K) (ha : PE X a (tM C W ma)) (hb : PE X b (tM C W mb)) : PE X (.BinOp a op b pos) (tM C W fun ρ => (ma ρ).bind fun x => (mb ρ).bind fun y => opBin op x y) :=
  pe_bin (opR_bin op) (gv_bin op) ha hb
end
end Mp

namespace Mp
open PySem L2

/-! ### leaves, displays, logic -/
def ofD (d : D) : Res R := .ok (.val d)
/-- a name of the def -/
def eVar (i : Nat) (ρ : Env) : Res R := match ρ[i]? with
  | some (some (.val d)) => .ok (.val d)
  | some (some (.own d)) => .ok (.bor d)
  | some (some (.bor d)) => .ok (.bor d)
  | _ => .stuck
/-- arguments, from the left -/
def eArgs : List (Env → Res R) → Env → Res (List R)
  | [], _ => .ok []
  | m :: ms, ρ => match m ρ with
    | .ok r => (match eArgs ms ρ with
      | .ok rs => .ok (r :: rs)
      | .exc c pl => .exc c pl
      | .stuck => .stuck)
    | .exc c pl => .exc c pl
    | .stuck => .stuck
def frozs : List R → Option (List D)
  | [] => some []
  | r :: rs => match r.froz, frozs rs with
    | some d, some ds => some (d :: ds)
    | _, _ => none
def mkTup (rs : List R) : Res R := match frozs rs with
  | some ds => if ds.length ≤ LIM then .ok (.val (.tup ds)) else .stuck
  | none => .stuck
def mkLst (rs : List R) : Res R := match frozs rs with
  | some ds => if ds.length ≤ LIM then .ok (.own (.lst ds)) else .stuck
  | none => .stuck
def asBl : R → Option Bool
  | .val (.bl b) => some b
  | _ => none
theorem asBl_some {r : R} {b : Bool} (h : asBl r = some b) : r = .val (.bl b) := by
  unfold asBl at h
  split at h
  · cases h; rfl
  · cases h
def eAnd (a b : Env → Res R) (ρ : Env) : Res R := (a ρ).bind fun x => match asBl x with
  | some true => b ρ
  | some false => .ok (.val (.bl false))
  | none => .stuck
def eOr (a b : Env → Res R) (ρ : Env) : Res R := (a ρ).bind fun x => match asBl x with
  | some true => .ok (.val (.bl true))
  | some false => b ρ
  | none => .stuck
def eNot (a : Env → Res R) (ρ : Env) : Res R := (a ρ).bind fun x => match asBl x with
  | some b => .ok (.val (.bl !b))
  | none => .stuck
def eIte (c a b : Env → Res R) (ρ : Env) : Res R := (c ρ).bind fun x => match asBl x with
  | some true => a ρ
  | some false => b ρ
  | none => .stuck
def eBin (op : Operator) (a b : Env → Res R) (ρ : Env) : Res R := (a ρ).bind fun x => (b ρ).bind fun y => opBin op x y
def eCmp (op : CmpOp) (a b : Env → Res R) (ρ : Env) : Res R := (a ρ).bind fun x => (b ρ).bind fun y => opCmp op x y
def eChain (op op' : CmpOp) (a b c : Env → Res R) (ρ : Env) : Res R := (a ρ).bind fun x => (b ρ).bind fun y => (opCmp op x y).bind fun z => match asBl z with
  | some true => (c ρ).bind fun w => opCmp op' y w
  | some false => .ok (.val (.bl false))
  | none => .stuck
def eTup (ms : List (Env → Res R)) (ρ : Env) : Res R := (eArgs ms ρ).bind mkTup
def eLst (ms : List (Env → Res R)) (ρ : Env) : Res R := (eArgs ms ρ).bind mkLst
def opNeg (x : R) : Res R := match x.d with
  | .int i => .ok (.val (.int (-i)))
  | _ => .stuck
def eNeg (a : Env → Res R) (ρ : Env) : Res R := (a ρ).bind opNeg

section
variable {X : Cx} {C : Cn} {W : WX} {e a b c : Expr} {m ma mb mc : Env → Res R} {pos : Pos}
theorem asBl_rr {K : PySem.W.Frag} {H0 H : Hp} {P : Addr → Prop} {v : V} {r : R} {k : Bool} (h : RR K H0 H P v r) (q : asBl r = some k) : v = .bl k := by
  rw [asBl_some q] at h
  exact h.bl rfl
theorem rr_bl {K : PySem.W.Frag} {H0 H : Hp} {P : Addr → Prop} {b : Bool} : RR K H0 H P (.bl b) (.val (.bl b)) := by simp [RR, Rp]
theorem pe_stuck : PE X e (tM C W fun _ => .stuck) := ⟨fun _ _ _ _ _ _ ⟨_, _, _, _, h⟩ => h.elim⟩
theorem pe_sc {d : D} {v : V} (h : PE X e (tC v)) (r : ∀ H P, Rp H P v d) : PE X e (tM C W fun _ => ofD d) := PE.weak h fun σ H Q ⟨ρ, c, S, sr, q⟩ => rw_val q (r _ _)
theorem pe_name {i : Nat} {x : Str} (hK : X.K = C.K) (hN : X.N[i]? = some x) (hv : Vis X.env.scope x) (hd : (x == ("__debug__" : Str)) = false) (hcd : (x == ("__classdict__" : Str)) = false) : PE X (.Name x pos) (tM C W (eVar i)) :=
  PE.weak (pe_var hN hv hd hcd) fun σ H Q ⟨ρ, c, S, sr, q⟩ => by
    unfold eVar at q
    split at q
    · next d e =>
      obtain ⟨v, h1, h2⟩ := sr.rep i _ e
      exact ⟨v, h1, q v H (Ex.refl _) h2.2⟩
    · next d e =>
      obtain ⟨v, h1, a, rfl, h2, h3⟩ := sr.rep i _ e
      exact ⟨_, h1, q _ H (Ex.refl _) h3.lent⟩
    · next d e =>
      obtain ⟨v, h1, h2⟩ := sr.rep i _ e
      exact ⟨v, h1, q v H (Ex.refl _) h2.2.lent⟩
    · exact q.elim
theorem RWs.nil {P : Addr → Prop} {σ : L2.St} {H : Hp} {Q : List V → Hp → Prop} (h : RWs C W P σ H (.ok []) Q) : Q [] H := h [] H (Ex.refl _) .nil
theorem pa_nilM : PA X [] (tMs C W (eArgs [])) := PA.weak pa_nil fun σ H Q ⟨ρ, c, S, sr, q⟩ => RWs.nil q
theorem pa_consM {es : List Expr} {ms : List (Env → Res R)} (ha : PE X e (tM C W m)) (hr : PA X es (tMs C W (eArgs ms))) (hs : starEach (e :: es) X.env = (false, eval e X.env) :: starEach es X.env) : PA X (e :: es) (tMs C W (eArgs (m :: ms))) :=
  PA.weak (pa_cons ha hr hs) fun σ H Q ⟨ρ, c, S, sr, q⟩ => by
    simp only [eArgs] at q
    refine ⟨ρ, c, S, sr, ?_⟩
    cases e1 : m ρ with
    | stuck => rw [e1] at q; exact q.elim
    | exc k pl => rw [e1] at q; exact q
    | ok r =>
      rw [e1] at q
      simp only at q
      intro v H1 x1 r1
      refine ⟨ρ, c, S, sr.ex x1, ?_⟩
      cases e2 : eArgs ms ρ with
      | stuck => rw [e2] at q; exact q.elim
      | exc k pl => rw [e2] at q; exact fun H' d x2 p => q H' d (x1.trans x2) p
      | ok rs =>
        rw [e2] at q
        intro vs H2 x2 r2
        exact q (v :: vs) H2 (x1.trans x2) (.cons (r1.mono (Ex.refl _) x2) (Pd.mono x1 (Ex.refl _) r2))
theorem Pd.froz {K : PySem.W.Frag} {H0 H : Hp} {P : Addr → Prop} {vs : List V} {rs : List R} (h : Paired (RR K H0 H P) vs rs) : ∀ {ds : List D}, frozs rs = some ds → Rps H P vs ds := by
  induction h with
  | nil => intro ds e; cases e; simp [Rps]
  | @cons v r vs rs h1 h2 ih =>
    intro ds e
    unfold frozs at e
    split at e
    · next d ds' e1 e2 => cases e; exact ⟨h1.froz e1, ih e2⟩
    · cases e
theorem rw_newT {P : Addr → Prop} {σ : L2.St} {H : Hp} {Q : VK} {ds : List D} {vs : List V} (h : RW C W P σ H (.ok (.val (.tup ds))) Q) (r : Rps H P vs ds) (hP : ∀ a, P a → ∃ o, H a = some o) : ∀ p, H p = none → Q (.ref p) (upd H p (.tup vs)) := by
  intro p hp
  refine h (.ref p) (upd H p (.tup vs)) (Ex.new hp) ?_
  show Rp _ _ _ _
  simp only [Rp]
  refine ⟨p, vs, rfl, fun z => ?_, upd_same, r.ex (Ex.new hp)⟩
  obtain ⟨o, q⟩ := hP p z
  rw [hp] at q
  cases q
theorem pe_tupM {es : List Expr} {ms : List (Env → Res R)} {x1} (h : PA X es (tMs C W (eArgs ms))) : PE X (.Tuple es x1 pos) (tM C W (eTup ms)) :=
  PE.weak (pe_tup h) fun σ H Q ⟨ρ, c, S, sr, q⟩ => ⟨ρ, c, S, sr, (RWs.bind q).imp fun vs H1 ⟨rs, x1, r1, q1⟩ => by
    unfold mkTup at q1
    split at q1
    · next ds e =>
      split at q1
      · next l =>
        have r := Pd.froz r1 e
        exact ⟨by rw [r.length]; exact lim_ok l, rw_newT q1 r (sr.ex x1).trk⟩
      · exact q1.elim
    · exact q1.elim⟩
theorem pe_lstM {es : List Expr} {ms : List (Env → Res R)} (h : PA X es (tMs C W (eArgs ms))) : PE X (.List es pos) (tM C W (eLst ms)) :=
  PE.weak (pe_lst h) fun σ H Q ⟨ρ, c, S, sr, q⟩ => ⟨ρ, c, S, sr, (RWs.bind q).imp fun vs H1 ⟨rs, x1, r1, q1⟩ => by
    unfold mkLst at q1
    split at q1
    · next ds e =>
      split at q1
      · next l =>
        have r := Pd.froz r1 e
        exact ⟨by rw [r.length]; exact lim_ok l, rw_new q1 r (sr.ex x1).trk⟩
      · exact q1.elim
    · exact q1.elim⟩
theorem pe_binM {op : Operator} (hK : X.K = C.K) (ha : PE X a (tM C W ma)) (hb : PE X b (tM C W mb)) : PE X (.BinOp a op b pos) (tM C W (eBin op ma mb)) := pe_binop hK ha hb
theorem pe_cmpM {op : CmpOp} (hK : X.K = C.K) (hu : X.A.units + 200 < cLine) (ha : PE X a (tM C W ma)) (hb : PE X b (tM C W mb)) (hm : behindInMarks op b = false) : PE X (.Compare a [op] [b] pos) (tM C W (eCmp op ma mb)) := pe_compare hK hu ha hb hm
theorem pe_negM (ha : PE X a (tM C W ma)) : PE X (.UnaryOp .USub a pos) (tM C W (eNeg ma)) :=
  PE.weak (pe_un un_neg ha) fun σ H Q ⟨ρ, c, S, sr, q⟩ => ⟨ρ, c, S, sr, (RW.bind q).imp fun v H1 ⟨r, x1, r1, q1⟩ => by
    unfold opNeg at q1
    split at q1
    · next i e => exact ⟨i, r1.int e, rw_val q1 (by simp [Rp])⟩
    · exact q1.elim⟩
theorem pe_notM (ha : PE X a (tM C W ma)) : PE X (.UnaryOp .Not a pos) (tM C W (eNot ma)) :=
  PE.weak (pe_not ha) fun σ H Q ⟨ρ, c, S, sr, q⟩ => ⟨ρ, c, S, sr, (RW.bind q).imp fun v H1 ⟨r, x1, r1, q1⟩ => by
    split at q1
    · next k e => exact ⟨k, asBl_rr r1 e, rw_bl q1⟩
    · exact q1.elim⟩
theorem pe_andM {rest : List Expr} (ha : PE X a (tM C W ma)) (hb : PE X (.BoolOp .And (b :: rest) pos) (tM C W mb)) : PE X (.BoolOp .And (a :: b :: rest) pos) (tM C W (eAnd ma mb)) :=
  PE.weak (pe_and ha hb) fun σ H Q ⟨ρ, c, S, sr, q⟩ => ⟨ρ, c, S, sr, (RW.bind q).imp fun v H1 ⟨r, x1, r1, q1⟩ => by
    split at q1
    · next e => exact ⟨true, asBl_rr r1 e, iteT ⟨ρ, c, S, sr.ex x1, q1⟩⟩
    · next e => exact ⟨false, asBl_rr r1 e, iteF (rw_val q1 (by simp [Rp]))⟩
    · exact q1.elim⟩
theorem pe_orM {rest : List Expr} (ha : PE X a (tM C W ma)) (hb : PE X (.BoolOp .Or (b :: rest) pos) (tM C W mb)) : PE X (.BoolOp .Or (a :: b :: rest) pos) (tM C W (eOr ma mb)) :=
  PE.weak (pe_or ha hb) fun σ H Q ⟨ρ, c, S, sr, q⟩ => ⟨ρ, c, S, sr, (RW.bind q).imp fun v H1 ⟨r, x1, r1, q1⟩ => by
    split at q1
    · next e => exact ⟨true, asBl_rr r1 e, iteT (rw_val q1 (by simp [Rp]))⟩
    · next e => exact ⟨false, asBl_rr r1 e, iteF ⟨ρ, c, S, sr.ex x1, q1⟩⟩
    · exact q1.elim⟩
/-- as a test: the value is a bool -/
theorem pt_of (h : PE X e (tM C W m)) (he : ∀ whole, isTrue e X.env whole = (do let v ← whole; standAt e.pos; holding [v] (truthy v))) : PT X e (tMt C W m) := pt_val h he
theorem pt_cmpM {op : CmpOp} (hK : X.K = C.K) (hu : X.A.units + 200 < cLine) (ha : PE X a (tM C W ma)) (hb : PE X b (tM C W mb)) (hm : behindInMarks op b = false) : PT X (.Compare a [op] [b] pos) (tMt C W (eCmp op ma mb)) :=
  PT.weak (pt_cmpR (opR_cmp hu op) ha hb hm) fun σ H Q ⟨ρ, c, S, sr, h⟩ => ⟨ρ, c, S, sr, (RW.bind h).imp fun v H1 ⟨x, e1, rx, h1⟩ => ⟨ρ, c, S, sr.ex e1, (RW.bind h1).imp fun u H2 ⟨y, e2, ry, h2⟩ => by
    rw [hK]
    exact gv_cmp op W _ σ H H2 _ v u x y ((sr.ex e1).ex e2).trk (rx.mono (Ex.refl _) e2) (ry.mono e1 (Ex.refl _)) h2⟩⟩
theorem pt_notM (ha : PT X a (tMt C W ma)) : PT X (.UnaryOp .Not a pos) (tMt C W (eNot ma)) :=
  PT.weak (pt_not ha) fun σ H Q ⟨ρ, c, S, sr, q⟩ => ⟨ρ, c, S, sr, (RW.bind q).imp fun v H1 ⟨r, x1, r1, q1⟩ => by
    split at q1
    · next k e =>
      obtain ⟨b, e2, q2⟩ := rw_bl q1
      cases e2
      exact ⟨k, asBl_rr r1 e, q2⟩
    · exact q1.elim⟩
theorem pw_andM {rest : List Expr} (ha : PT X a (tMt C W ma)) (hb : PW X (.BoolOp .And (b :: rest) pos) (tMt C W mb)) : PW X (.BoolOp .And (a :: b :: rest) pos) (tMt C W (eAnd ma mb)) :=
  PW.weak (pw_and ha hb) fun σ H Q ⟨ρ, c, S, sr, q⟩ => ⟨ρ, c, S, sr, (RW.bind q).imp fun v H1 ⟨r, x1, r1, q1⟩ => by
    split at q1
    · next e => exact ⟨true, asBl_rr r1 e, iteT ⟨ρ, c, S, sr.ex x1, q1⟩⟩
    · next e =>
      obtain ⟨b, e2, q2⟩ := rw_val q1 (show Rp _ _ (.bl false) (.bl false) by simp [Rp])
      cases e2
      exact ⟨false, asBl_rr r1 e, iteF q2⟩
    · exact q1.elim⟩
theorem pw_orM {rest : List Expr} (ha : PT X a (tMt C W ma)) (hb : PW X (.BoolOp .Or (b :: rest) pos) (tMt C W mb)) : PW X (.BoolOp .Or (a :: b :: rest) pos) (tMt C W (eOr ma mb)) :=
  PW.weak (pw_or ha hb) fun σ H Q ⟨ρ, c, S, sr, q⟩ => ⟨ρ, c, S, sr, (RW.bind q).imp fun v H1 ⟨r, x1, r1, q1⟩ => by
    split at q1
    · next e =>
      obtain ⟨b, e2, q2⟩ := rw_val q1 (show Rp _ _ (.bl true) (.bl true) by simp [Rp])
      cases e2
      exact ⟨true, asBl_rr r1 e, iteT q2⟩
    · next e => exact ⟨false, asBl_rr r1 e, iteF ⟨ρ, c, S, sr.ex x1, q1⟩⟩
    · exact q1.elim⟩
theorem pe_iteM (hc : PT X c (tMt C W mc)) (ha : PE X a (tM C W ma)) (hb : PE X b (tM C W mb)) : PE X (.IfExp c a b pos) (tM C W (eIte mc ma mb)) :=
  PE.weak (pe_ifExp hc ha hb) fun σ H Q ⟨ρ, c, S, sr, q⟩ => ⟨ρ, c, S, sr, (RW.bind q).imp fun v H1 ⟨r, x1, r1, q1⟩ => by
    split at q1
    · next e => exact ⟨true, asBl_rr r1 e, iteT ⟨ρ, c, S, sr.ex x1, q1⟩⟩
    · next e => exact ⟨false, asBl_rr r1 e, iteF ⟨ρ, c, S, sr.ex x1, q1⟩⟩
    · exact q1.elim⟩
theorem rcmp_bool {op : CmpOp} {K : PySem.W.Frag} {H : Hp} {v u : V} {Q : VK} : True := trivial
theorem pe_chainM {op op' : CmpOp} (hK : X.K = C.K) (hu : X.A.units + 200 < cLine) (ha : PE X a (tM C W ma)) (hb : PE X b (tM C W mb)) (hc : PE X c (tM C W mc)) 
    (k : PE X (.Compare a [op, op'] [b, c] pos) (tChain (rCmp X.K op) (rCmp X.K op') (tM C W ma) (tM C W mb) (tM C W mc))) : PE X (.Compare a [op, op'] [b, c] pos) (tM C W (eChain op op' ma mb mc)) :=
  PE.weak k fun σ H Q ⟨ρ, c, S, sr, h⟩ => ⟨ρ, c, S, sr, (RW.bind h).imp fun v H1 ⟨x, e1, rx, h1⟩ => ⟨ρ, c, S, sr.ex e1, (RW.bind h1).imp fun u H2 ⟨y, e2, ry, h2⟩ => by
    rw [hK]
    refine gv_cmp op W _ σ H H2 _ v u x y ((sr.ex e1).ex e2).trk (rx.mono (Ex.refl _) e2) (ry.mono e1 (Ex.refl _)) ((RW.bind h2).imp fun z H3 ⟨r, e3, rz, h3⟩ => ?_)
    split at h3
    · next e =>
      refine ⟨true, asBl_rr rz e, iteT ⟨ρ, c, S, ((sr.ex e1).ex e2).ex e3, (RW.bind h3).imp fun w H4 ⟨r4, e4, rw4, h4⟩ => ?_⟩⟩
      exact gv_cmp op' W _ σ H H4 Q u w y r4 ((((sr.ex e1).ex e2).ex e3).ex e4).trk (ry.mono e1 (e3.trans e4)) (rw4.mono ((e1.trans e2).trans e3) (Ex.refl _)) h4
    · next e => exact ⟨false, asBl_rr rz e, iteF (rw_val h3 (by simp [Rp]))⟩
    · exact h3.elim⟩⟩
end
end Mp

namespace Mp
open PySem L2

/-! ### dicts -/
def keq : D → D → Bool
  | .int i, .int j => i == j
  | .str x, .str y => x == y
  | .tup as, .tup bs => (keysD as).isSome && decide (keysD as = keysD bs)
  | _, _ => false
def dctGet : List D → List D → D → Option D
  | k :: ks, v :: vs, q => if keq k q then some v else dctGet ks vs q
  | _, _, _ => none
theorem keyD_kD (k : Key) : keyD (kD k) = some k := by cases k <;> rfl
theorem keyD_some {d : D} {k : Key} (h : keyD d = some k) : d = kD k := by
  cases d <;> simp [keyD] at h <;> (subst h; rfl)
theorem keysD_ksD : ∀ k : List Key, keysD (k.map kD) = some k
  | [] => rfl
  | a :: r => by simp [keysD, keyD_kD, keysD_ksD r]
theorem keysD_some : ∀ {ds : List D} {k : List Key}, keysD ds = some k → ds = k.map kD
  | [], k, h => by simp [keysD] at h; subst h; rfl
  | d :: ds, k, h => by
    unfold keysD at h
    split at h
    · next k' ks e1 e2 => cases h; rw [List.map_cons, keyD_some e1, keysD_some e2]
    · cases h
theorem keq_kD (a b : Key) : keq (kD a) (kD b) = decide (a = b) := by
  cases a <;> cases b <;> simp [kD, keq, Bool.beq_eq_decide_eq]
theorem keq_ksD (a b : List Key) : keq (ksD a) (ksD b) = decide (a = b) := by
  simp only [ksD, keq, keysD_ksD, Option.isSome_some, Bool.true_and]
  by_cases h : a = b
  · subst h; simp
  · rw [decide_eq_false h]
    exact decide_eq_false fun z => h (Option.some.inj z)
/-- the key that r is, in a dict of these keys -/
def dKey (tk : Bool) (r : R) : Option D := match tk with
  | false => if (keyD r.d).isSome then some r.d else none
  | true => match r with
    | .val (.tup ds) => if (keysD ds).isSome then some (.tup ds) else none
    | _ => none
def RelD (H : Hp) (P : Addr → Prop) : Option V → Option D → Prop
  | some v, some d => Rp H P v d
  | none, none => True
  | _, _ => False
theorem val_rel {H : Hp} {P : Addr → Prop} {κ : Type} [DecidableEq κ] {f : κ → D} (hf : ∀ a b, keq (f a) (f b) = decide (a = b)) (k : κ) :
    ∀ {kvs : List (κ × V)} {ds : List D}, Rps H P (kvs.map (·.2)) ds → RelD H P (valV kvs k) (dctGet (kvs.map fun p => f p.1) ds (f k))
  | [], [], _ => by simp [valV, dctGet, RelD]
  | [], _ :: _, h => by simp [Rps] at h
  | _ :: _, [], h => by simp [Rps] at h
  | p :: kvs, d :: ds, h => by
    simp only [List.map_cons, Rps] at h
    simp only [List.map_cons, dctGet, hf]
    by_cases e : p.1 = k
    · rw [valV_pos e, if_pos (decide_eq_true e)]
      exact h.1
    · rw [valV_neg e, if_neg (by simp [e])]
      exact val_rel hf k h.2
/-- a look-up -/
theorem look_ok {K : PySem.W.Frag} {H0 H : Hp} {P : Addr → Prop} {v u : V} {r k : R} {tk : Bool} {ks ds : List D} {kk : D} (hv : RR K H0 H P v r) (e : r.d = .dct tk ks ds) (hu : RR K H0 H P u k) (ek : dKey tk k = some kk) :
    ∃ a o, v = .ref a ∧ DGet H a u o ∧ RelD H P o (dctGet ks ds kk) := by
  have q := hv.lent (by rw [e]; rfl)
  rw [e] at q
  cases tk with
  | false =>
    obtain ⟨a, kvs, rfl, h2, rfl, h4, h5⟩ := q
    unfold dKey at ek
    simp only at ek
    split at ek
    · next hs =>
      cases ek
      obtain ⟨key, hk⟩ := Option.isSome_iff_exists.mp hs
      have ekk := keyD_some hk
      have hu' := hu.sc (by rw [ekk]; cases key <;> rfl)
      have eu : u = kV key := by
        rw [ekk] at hu'
        cases key with
        | inl i => simp only [kD, Rp] at hu'; exact hu'
        | inr x => simp only [kD, Rp] at hu'; exact hu'.1
      subst eu
      refine ⟨a, valV kvs key, rfl, .inl ⟨kvs, key, h2, rfl, rfl⟩, ?_⟩
      rw [ekk]
      exact val_rel keq_kD key h5
    · cases ek
  | true =>
    obtain ⟨a, kvs, rfl, h2, rfl, h4, h5⟩ := q
    unfold dKey at ek
    simp only at ek
    split at ek
    · next es =>
      split at ek
      · next hs =>
        cases ek
        obtain ⟨key, hk⟩ := Option.isSome_iff_exists.mp hs
        have ekk := keysD_some hk
        have hu' : Rp H P u (.tup es) := hu
        simp only [Rp] at hu'
        obtain ⟨b, vs, rfl, _, hb, hr⟩ := hu'
        have ev : vs = key.map kV := by
          rw [ekk] at hr
          clear ekk hk hs hb hu
          induction key generalizing vs with
          | nil => cases vs with
            | nil => rfl
            | cons _ _ => simp [Rps] at hr
          | cons k r ih => cases vs with
            | nil => simp [Rps] at hr
            | cons v vs =>
              simp only [List.map_cons, Rps] at hr
              rw [List.map_cons, ← ih vs hr.2]
              congr 1
              cases k with
              | inl i => have := hr.1; simp only [kD, Rp] at this; exact this
              | inr x => have := hr.1; simp only [kD, Rp] at this; exact this.1
        subst ev
        refine ⟨a, valV kvs key, rfl, .inr ⟨kvs, key, b, h2, rfl, hb, rfl⟩, ?_⟩
        rw [ekk]
        exact val_rel keq_ksD key h5
      · cases ek
    · cases ek
theorem RelD.isSome {H : Hp} {P : Addr → Prop} {o : Option V} {d : Option D} (h : RelD H P o d) : o.isSome = d.isSome := by
  cases o <;> cases d <;> first | rfl | exact h.elim

/-! ### items, slices -/
theorem rr_str {K : PySem.W.Frag} {H0 H : Hp} {P : Addr → Prop} {x : Str} (h : strOk x = true) : RR K H0 H P (.str x) (.val (.str x)) := (show Rp H P (.str x) (.str x) from rp_str h)
theorem rr_int {K : PySem.W.Frag} {H0 H : Hp} {P : Addr → Prop} {x : Int} : RR K H0 H P (.int x) (.val (.int x)) := by simp [RR, Rp]
theorem Rps.atI {H : Hp} {P : Addr → Prop} {vs : List V} {ds : List D} {i : Int} {d : D} (h : Rps H P vs ds) (e : atI ds i = some d) : ∃ v, atI vs i = some v ∧ Rp H P v d := by
  unfold L2.atI at e ⊢
  rw [h.length]
  cases q : ixN ds.length i with
  | none => rw [q] at e; cases e
  | some j =>
    rw [q] at e
    exact h.get e
def opIx (x y : R) : Res R := match x.d, y.d with
  | .lst ds, .int i => (match atI ds i with | some d => .ok (.val d) | none => .stuck)
  | .tup ds, .int i => (match atI ds i with | some d => .ok (.val d) | none => .stuck)
  | .str z, .int i => if z.length ≤ LIM then (match atI z.cps.toList i with | some c => .ok (.val (.str ⟨#[c]⟩)) | none => .stuck) else .stuck
  | .dct tk ks ds, _ => (match dKey tk y with
    | some k => (match dctGet ks ds k with | some d => .ok (.val d) | none => .stuck)
    | none => .stuck)
  | _, _ => .stuck
def eIx (a b : Env → Res R) (ρ : Env) : Res R := (a ρ).bind fun x => (b ρ).bind fun y => opIx x y
def cutL {α : Type} (xs : List α) (lo hi : Option Int) : List α := (xs.drop (HT.sIx xs.length 0 lo)).take (HT.sIx xs.length xs.length hi - HT.sIx xs.length 0 lo)
theorem Rps.cut {H : Hp} {P : Addr → Prop} {vs : List V} {ds : List D} (h : Rps H P vs ds) (lo hi : Option Int) : Rps H P (cutV vs lo hi) (cutL ds lo hi) := by
  unfold cutV cutL
  rw [h.length]
  exact (h.drop _).take _
def opSl (x : R) (lo hi : Option Int) : Res R := match x.d with
  | .lst ds => .ok (.own (.lst (cutL ds lo hi)))
  | .tup ds => if x.exact then .ok (.val (.tup (cutL ds lo hi))) else .stuck
  | .str z => if z.length ≤ LIM then .ok (.val (.str (cutS z lo hi))) else .stuck
  | _ => .stuck
/-- a part of a slice -/
def ePart : Option (Env → Res R) → Env → Res (Option Int)
  | none, _ => .ok none
  | some m, ρ => match m ρ with
    | .ok r => (match r.d with | .int i => .ok (some i) | _ => .stuck)
    | .exc c pl => .exc c pl
    | .stuck => .stuck
def eSl (a : Env → Res R) (lo hi : Option (Env → Res R)) (ρ : Env) : Res R := (a ρ).bind fun x => match ePart lo ρ with
  | .ok l => (match ePart hi ρ with
    | .ok u => opSl x l u
    | .exc c pl => .exc c pl
    | .stuck => .stuck)
  | .exc c pl => .exc c pl
  | .stuck => .stuck

section
variable {X : Cx} {C : Cn} {W : WX} {e a b c o i : Expr} {m ma mb mc mo mi : Env → Res R} {pos p2 : Pos}
/-- either reading -/
theorem PE.or {t t' : TE} (h : PE X e t) (h' : PE X e t') : PE X e (fun σ H Q => t σ H Q ∨ t' σ H Q) := ⟨fun pins s σ H Q I q => q.elim (h.run pins s σ H Q I) (h'.run pins s σ H Q I)⟩
theorem pe_ixM (hK : X.K = C.K) (hu : X.A.units + 200 < cLine) (ha : PE X a (tM C W ma)) (hb : PE X b (tM C W mb)) (hs : PlainIx b) : PE X (.Subscript a b pos) (tM C W (eIx ma mb)) := by
  refine ⟨fun pins s σ H Q I ⟨ρ, c, S, sr, h⟩ => ?_⟩
  -- which road: by what the base is
  unfold eIx at h
  cases e1 : ma ρ with
  | stuck => rw [e1] at h; exact h.elim
  | exc k pl =>
    rw [e1] at h
    exact (pe_ix ix_seq ha hb hs).run pins s σ H Q I ⟨ρ, c, S, sr, by rw [e1]; exact h⟩
  | ok x =>
    rw [e1, Res.bind_ok] at h
    cases e2 : mb ρ with
    | stuck => rw [e2] at h; exact h.elim
    | exc k pl =>
      rw [e2] at h
      refine (pe_ix ix_seq ha hb hs).run pins s σ H Q I ⟨ρ, c, S, sr, ?_⟩
      rw [e1]
      intro v H1 x1 r1
      exact ⟨ρ, c, S, sr.ex x1, by rw [e2]; exact RW.mono (res := .exc k pl) (Q := Q) x1 h⟩
    | ok y =>
      rw [e2, Res.bind_ok] at h
      have road : ∀ (rd : V → V → Hp → VK → Prop), (∀ v u H1 H2, Ex H H1 → Ex H1 H2 → RR C.K H H2 (Mp.Own c S) v x → RR C.K H1 H2 (Mp.Own c S) u y → rd v u H2 Q) → tM C W ma σ H fun v H1 => tM C W mb σ H1 fun u H2 => rd v u H2 Q := by
        intro rd k
        refine ⟨ρ, c, S, sr, ?_⟩
        rw [e1]
        intro v H1 x1 r1
        refine ⟨ρ, c, S, sr.ex x1, ?_⟩
        rw [e2]
        intro u H2 x2 r2
        exact k v u H1 H2 x1 x2 (r1.mono (Ex.refl _) x2) r2
      unfold opIx at h
      split at h
      · next ds j q1 q2 =>
        split at h
        · next d q3 =>
          refine (pe_ix ix_seq ha hb hs).run pins s σ H Q I (road (rIx X.K) fun v u H1 H2 x1 x2 rv ru => ?_)
          obtain ⟨p, vs, hv, hq, hr⟩ := rv.lst q1
          obtain ⟨w, hw, rw'⟩ := hr.atI q3
          rw [hK]
          exact .inl ⟨p, vs, j, w, hv, ru.int q2, hq, hw, h w H2 (x1.trans x2) rw'⟩
        · exact h.elim
      · next ds j q1 q2 =>
        split at h
        · next d q3 =>
          refine (pe_ix ix_seq ha hb hs).run pins s σ H Q I (road (rIx X.K) fun v u H1 H2 x1 x2 rv ru => ?_)
          obtain ⟨p, vs, hv, hq, hr⟩ := rv.tup q1
          obtain ⟨w, hw, rw'⟩ := hr.atI q3
          rw [hK]
          exact .inr (.inl ⟨p, vs, j, w, hv, ru.int q2, hq, hw, h w H2 (x1.trans x2) rw'⟩)
        · exact h.elim
      · next z j q1 q2 =>
        split at h
        · next l =>
          split at h
          · next d q3 =>
            refine (pe_ix ix_seq ha hb hs).run pins s σ H Q I (road (rIx X.K) fun v u H1 H2 x1 x2 rv ru => ?_)
            obtain ⟨hz, ok⟩ := rv.str q1
            obtain ⟨k, _, hk, _⟩ := atI_get q3
            exact .inr (.inr ⟨z, j, d, hz, ru.int q2, lim_ok l, q3, h _ H2 (x1.trans x2) (rr_str (strOk_sign ok (List.mem_of_getElem? hk)))⟩)
          · exact h.elim
        · exact h.elim
      · next tk ks ds q1 =>
        split at h
        · next kk q2 =>
          split at h
          · next d q3 =>
            refine (pe_dget (by omega) ha hb hs).run pins s σ H Q I (road (fun x y H2 Q => ∃ a v, x = .ref a ∧ DGet H2 a y (some v) ∧ Q v H2) fun v u H1 H2 x1 x2 rv ru => ?_)
            obtain ⟨a', o, hv, hg, hr⟩ := look_ok (rv.mono (H0' := fun _ => none) (fun _ _ z => nomatch z) (Ex.refl _)) q1 (ru.mono (H0' := fun _ => none) (fun _ _ z => nomatch z) (Ex.refl _)) q2
            rw [q3] at hr
            cases o with
            | none => exact hr.elim
            | some w => exact ⟨a', w, hv, hg, h w H2 (x1.trans x2) hr⟩
          · exact h.elim
        · exact h.elim
      · exact h.elim
theorem po_M {lo : Option Expr} {ml : Option (Env → Res R)} (h : ∀ e, lo = some e → ∃ m, ml = some m ∧ PE X e (tM C W m)) (hn : lo = none → ml = none) :
    PO X lo (fun σ H Q => ∃ ρ c S, SR C.K σ H ρ c S ∧ match ePart ml ρ with
      | .ok l => ∀ H', Ex H H' → Q l H'
      | .exc k pl => ∀ H' d, Ex H H' → XP H' (Mp.Own c S) d pl → W (.ref (C.ca k)) d σ H'
      | .stuck => False) := by
  cases lo with
  | none =>
    rw [hn rfl]
    refine ⟨fun pins s σ H Q I ⟨ρ, c, S, sr, q⟩ => ?_⟩
    exact po_none.run pins s σ H Q I (q H (Ex.refl _))
  | some e =>
    obtain ⟨m, rfl, hm⟩ := h e rfl
    refine ⟨fun pins s σ H Q I ⟨ρ, c, S, sr, q⟩ => ?_⟩
    refine (po_some hm).run pins s σ H Q I ⟨ρ, c, S, sr, ?_⟩
    simp only [ePart] at q
    cases e1 : m ρ with
    | stuck => rw [e1] at q; exact q.elim
    | exc k pl => rw [e1] at q; exact q
    | ok r =>
      rw [e1] at q
      intro v H1 x1 r1
      simp only at q
      split at q
      · next l e2 =>
        split at e2
        · next i e3 => cases e2; exact ⟨i, r1.int e3, q H1 x1⟩
        · cases e2
      · next k pl e2 => split at e2 <;> cases e2
      · exact q.elim
theorem pe_slM {lo hi : Option Expr} {ml mh : Option (Env → Res R)} (hK : X.K = C.K) (ha : PE X a (tM C W ma)) (hl : ∀ e, lo = some e → ∃ m, ml = some m ∧ PE X e (tM C W m)) (hln : lo = none → ml = none)
    (hh : ∀ e, hi = some e → ∃ m, mh = some m ∧ PE X e (tM C W m)) (hhn : hi = none → mh = none) : PE X (.Subscript a (.Slice lo hi none p2) pos) (tM C W (eSl ma ml mh)) := by
  refine PE.weak (pe_slice (sl_list.or (sl_tupA.or sl_str)) ha (po_M hl hln) (po_M hh hhn)) fun σ H Q ⟨ρ, c, S, sr, q⟩ => ?_
  refine ⟨ρ, c, S, sr, (RW.bind q).imp fun v H1 ⟨x, x1, r1, q1⟩ => ?_⟩
  refine ⟨ρ, c, S, sr.ex x1, ?_⟩
  cases e1 : ePart ml ρ with
  | stuck => rw [e1] at q1; exact q1.elim
  | exc k pl => rw [e1] at q1; exact q1
  | ok l =>
    rw [e1] at q1
    intro H2 x2
    refine ⟨ρ, c, S, (sr.ex x1).ex x2, ?_⟩
    simp only at q1
    cases e2 : ePart mh ρ with
    | stuck => rw [e2] at q1; exact q1.elim
    | exc k pl => rw [e2] at q1; exact fun H' d x3 p => q1 H' d (x2.trans x3) p
    | ok u =>
      rw [e2] at q1
      intro H3 x3
      have r3 := r1.mono (Ex.refl _) (x2.trans x3)
      have hP := (((sr.ex x1).ex x2).ex x3).trk
      have q3 : RW C W (Mp.Own c S) σ H3 (opSl x l u) Q := RW.mono (x2.trans x3) q1
      unfold opSl at q3
      split at q3
      · next ds e3 =>
        obtain ⟨p, vs, hv, hq, hr⟩ := r3.lst e3
        rw [hK]
        exact .inl ⟨p, vs, hv, hq, rw_new q3 (hr.cut l u) hP⟩
      · next ds e3 =>
        split at q3
        · next hx =>
          have h4 : Rp H3 (Mp.Own c S) v (.tup ds) := by
            cases x with
            | val d => cases e3; exact r3
            | own d => cases e3; obtain ⟨_, _, _, _, z⟩ := r3; exact z.elim
            | bor d => cases hx
          simp only [Rp] at h4
          obtain ⟨p, vs, rfl, np, hq, hr⟩ := h4
          refine .inr (.inl ⟨p, vs, rfl, SqT.of hq, fun hw => ?_, fun _ => rw_newT q3 (hr.cut l u) hP⟩)
          have ec : cutL ds l u = ds := by
            unfold cutL
            rw [hr.length] at hw
            rw [hw.1, hw.2]
            simp
          rw [ec] at q3
          exact q3 _ H3 (Ex.refl _) (by show Rp _ _ _ _; simp only [Rp]; exact ⟨p, vs, rfl, np, hq, hr⟩)
        · exact q3.elim
      · next z e3 =>
        split at q3
        · next lz =>
          obtain ⟨hz, ok⟩ := r3.str e3
          exact .inr (.inr ⟨z, hz, lim_ok lz, q3 _ H3 (Ex.refl _) (rr_str (strOk_cut ok l u))⟩)
        · exact q3.elim
      · exact q3.elim
end
end Mp

namespace Mp
open PySem L2

/-! ### what a call's text must be -/
/-- no star -/
def noStar : Expr → Bool
  | .Starred _ _ => false
  | _ => true
theorem starEach_cons {e : Expr} {es : List Expr} {env : PySem.Env} (h : noStar e = true) : starEach (e :: es) env = (false, eval e env) :: starEach es env := by
  cases e <;> first | rfl | cases h
theorem starEach_any {env : PySem.Env} {pos : Pos} : ∀ {es : List Expr}, es.all noStar = true → (backTo pos (starEach es env)).any (·.1) = false
  | [], _ => rfl
  | e :: es, h => by
    rw [List.all_cons, Bool.and_eq_true] at h
    rw [starEach_cons h.1]
    have q := starEach_any (env := env) (pos := pos) h.2
    simp only [backTo, List.map_cons, List.any_cons] at q ⊢
    rw [q]
    rfl
theorem starEach_all {env : PySem.Env} {pos : Pos} : ∀ {es : List Expr}, es.all noStar = true → (backTo pos (starEach es env)).all (fun x => !x.1) = true
  | [], _ => rfl
  | e :: es, h => by
    rw [List.all_cons, Bool.and_eq_true] at h
    rw [starEach_cons h.1]
    have q := starEach_all (env := env) (pos := pos) h.2
    simp only [backTo, List.map_cons, List.all_cons] at q ⊢
    rw [q]
    rfl
/-- no call without arguments of a name (super() among them) -/
def plainBase : Expr → Bool
  | .Call (.Name _ _) [] [] _ => false
  | _ => true
theorem base_ok {o : Expr} {m : Str} {env : PySem.Env} {w : Sem Value} (h : plainBase o = true) : attributeBase o m env w = w := by
  unfold attributeBase
  split
  · simp [plainBase] at h
  · rfl
def noSlice : Expr → Bool
  | .Slice .. => false
  | _ => true
theorem plainIx_of {e : Expr} (h : noSlice e = true) : PlainIx e := by
  intro o i
  cases e <;> first | rfl | cases h
/-- a test that is its value's truth -/
def plainTest : Expr → Bool
  | .UnaryOp .Not _ _ | .BoolOp _ _ _ | .IfExp _ _ _ _ | .Compare _ _ _ _ => false
  | _ => true
theorem isTrue_of {e : Expr} {env : PySem.Env} (h : plainTest e = true) : ∀ whole, isTrue e env whole = (do let v ← whole; standAt e.pos; holding [v] (truthy v)) := by
  intro whole
  cases e <;> first | rfl | (simp [plainTest] at h; done) | (rename_i op _ _; cases op <;> first | rfl | (simp [plainTest] at h))

/-! ### built-in functions -/
def bls : List D → Option (List Bool)
  | [] => some []
  | .bl b :: ds => (bls ds).map (b :: ·)
  | _ => none
def stsL : List D → Option (List Str)
  | [] => some []
  | .str b :: ds => (stsL ds).map (b :: ·)
  | _ => none
def ints' : List D → Option (List Int)
  | [] => some []
  | .int b :: ds => (ints' ds).map (b :: ·)
  | _ => none
def numS (n : Nat) : Str := ⟨(TL.numL n).toArray⟩
theorem numS_eq (n : Nat) : Str.ofString (toString ((n : Nat) : Int)) = numS n := by
  have h := TL.tl_num n
  unfold numS
  rw [← h]
theorem strOk_num (n : Nat) : strOk (numS n) = true := by
  unfold numS
  rw [strOk_mk]
  intro c hc
  have := (TL.numL_digits n) c hc
  unfold NumText.AllDigits at *
  omega
def bLen : List R → Res R
  | [r] => (match r.d with
    | .lst ds => .ok (.val (.int (ds.length : Int)))
    | .tup ds => .ok (.val (.int (ds.length : Int)))
    | .str z => if z.length ≤ LIM then .ok (.val (.int (z.length : Int))) else .stuck
    | .dct false ks ds => .ok (.val (.int (ds.length : Int)))
    | _ => .stuck)
  | _ => .stuck
def bStr : List R → Res R
  | [r] => (match r.d with
    | .int i => if decide (0 ≤ i) && decide (i.natAbs.log2 < 1900) then .ok (.val (.str (numS i.toNat))) else .stuck
    | _ => .stuck)
  | _ => .stuck
def bInt : List R → Res R
  | [r] => (match r.d with
    | .int i => .ok (.val (.int i))
    | .bl b => .ok (.val (.int (if b then 1 else 0)))
    | .str z => (match PySem.intText? z with
      | some n => if z.length ≤ 640 then .ok (.val (.int n)) else .stuck
      | none => .stuck)
    | _ => .stuck)
  | _ => .stuck
def bList : List R → Res R
  | [r] => (match r.d with
    | .lst ds => .ok (.own (.lst ds))
    | .tup ds => .ok (.own (.lst ds))
    | _ => .stuck)
  | _ => .stuck
def bTuple : List R → Res R
  | [r] => (match r.d with
    | .lst ds => .ok (.val (.tup ds))
    | .tup ds => if r.exact then .ok (.val (.tup ds)) else .stuck
    | _ => .stuck)
  | _ => .stuck
def bAll : List R → Res R
  | [r] => (match r.d with
    | .lst ds => (match bls ds with | some bs => .ok (.val (.bl (bs.all id))) | none => .stuck)
    | _ => .stuck)
  | _ => .stuck
def bAny : List R → Res R
  | [r] => (match r.d with
    | .lst ds => (match bls ds with | some bs => .ok (.val (.bl (bs.any id))) | none => .stuck)
    | _ => .stuck)
  | _ => .stuck
def bSum : List R → Res R
  | [r] => (match r.d with
    | .lst ds => (match ints' ds with | some bs => .ok (.val (.int bs.sum)) | none => .stuck)
    | _ => .stuck)
  | _ => .stuck
def bMin : List R → Res R
  | [r, r'] => (match r.d, r'.d with
    | .int i, .int j => .ok (.val (.int (if j < i then j else i)))
    | _, _ => .stuck)
  | _ => .stuck
def bMax : List R → Res R
  | [r, r'] => (match r.d, r'.d with
    | .int i, .int j => .ok (.val (.int (if j > i then j else i)))
    | _, _ => .stuck)
  | _ => .stuck
def eBlt (f : List R → Res R) (ms : List (Env → Res R)) (ρ : Env) : Res R := (eArgs ms ρ).bind f
/-- the type's name; dicts and the like are left out -/
def tyD : D → Option String
  | .non => some "NoneType" | .bl _ => some "bool" | .int _ => some "int" | .str _ => some "str" | .tup _ => some "tuple" | .lst _ => some "list" | .dct _ _ _ => none
def isT (T : String) (d : D) : Option Bool := match tyD d with
  | some t => if ["str", "int", "bool", "list", "tuple", "dict"].contains T then some (t == T || (t == "bool" && T == "int")) else none
  | none => none
def eIsi (T : String) (m : Env → Res R) (ρ : Env) : Res R := (m ρ).bind fun r => match isT T r.d with
  | some b => .ok (.val (.bl b))
  | none => .stuck

theorem paired1 {α β : Type} {F : α → β → Prop} {vs : List α} {r : β} (h : Paired F vs [r]) : ∃ v, vs = [v] ∧ F v r := by
  cases h with
  | cons a b => cases b; exact ⟨_, rfl, a⟩
theorem paired2 {α β : Type} {F : α → β → Prop} {vs : List α} {r r' : β} (h : Paired F vs [r, r']) : ∃ v v', vs = [v, v'] ∧ F v r ∧ F v' r' := by
  cases h with
  | cons a b => cases b with
    | cons a' b' => cases b'; exact ⟨_, _, rfl, a, a'⟩
theorem Rps.bls {H : Hp} {P : Addr → Prop} : ∀ {vs : List V} {ds : List D} {bs : List Bool}, Rps H P vs ds → bls ds = some bs → vs = bs.map V.bl
  | [], [], bs, _, e => by simp [Mp.bls] at e; subst e; rfl
  | [], _ :: _, _, h, _ => by simp [Rps] at h
  | _ :: _, [], _, h, _ => by simp [Rps] at h
  | v :: vs, d :: ds, bs, h, e => by
    simp only [Rps] at h
    cases d with
    | bl b =>
      simp only [Mp.bls, Option.map_eq_some_iff] at e
      obtain ⟨cs, e1, rfl⟩ := e
      rw [List.map_cons, ← Rps.bls h.2 e1]
      have := h.1
      simp only [Rp] at this
      rw [this]
    | _ => simp [Mp.bls] at e
theorem Rps.stsL {H : Hp} {P : Addr → Prop} : ∀ {vs : List V} {ds : List D} {bs : List Str}, Rps H P vs ds → stsL ds = some bs → vs = bs.map V.str ∧ ∀ x ∈ bs, strOk x = true
  | [], [], bs, _, e => by simp [Mp.stsL] at e; subst e; exact ⟨rfl, fun x hx => by cases hx⟩
  | [], _ :: _, _, h, _ => by simp [Rps] at h
  | _ :: _, [], _, h, _ => by simp [Rps] at h
  | v :: vs, d :: ds, bs, h, e => by
    simp only [Rps] at h
    cases d with
    | str b =>
      simp only [Mp.stsL, Option.map_eq_some_iff] at e
      obtain ⟨cs, e1, rfl⟩ := e
      obtain ⟨i1, i2⟩ := Rps.stsL h.2 e1
      have := h.1
      simp only [Rp] at this
      refine ⟨by rw [List.map_cons, ← i1, this.1], fun x hx => ?_⟩
      rcases List.mem_cons.mp hx with rfl | hx
      · exact this.2
      · exact i2 x hx
    | _ => simp [Mp.stsL] at e
theorem Rps.ints' {H : Hp} {P : Addr → Prop} : ∀ {vs : List V} {ds : List D} {bs : List Int}, Rps H P vs ds → ints' ds = some bs → vs = bs.map V.int
  | [], [], bs, _, e => by simp [Mp.ints'] at e; subst e; rfl
  | [], _ :: _, _, h, _ => by simp [Rps] at h
  | _ :: _, [], _, h, _ => by simp [Rps] at h
  | v :: vs, d :: ds, bs, h, e => by
    simp only [Rps] at h
    cases d with
    | int b =>
      simp only [Mp.ints', Option.map_eq_some_iff] at e
      obtain ⟨cs, e1, rfl⟩ := e
      rw [List.map_cons, ← Rps.ints' h.2 e1]
      have := h.1
      simp only [Rp] at this
      rw [this]
    | _ => simp [Mp.ints'] at e

section
variable {X : Cx} {C : Cn} {W : WX} {e o : Expr} {es : List Expr} {m mo : Env → Res R} {ms : List (Env → Res R)} {pos p apos : Pos} {x : Str}
/-- what a built-in's rule must give -/
def BltGives (C : Cn) (f : List R → Res R) (r : List V → Hp → VK → Prop) : Prop := ∀ (W : WX) (P : Addr → Prop) (σ : L2.St) (H0 H : Hp) (Q : VK) (vs : List V) (rs : List R), (∀ a, P a → ∃ o, H a = some o) → Paired (RR C.K H0 H P) vs rs → RW C W P σ H (f rs) Q → r vs H Q
theorem pe_bltM {id : String} {r : List V → Hp → VK → Prop} {f : List R → Res R} (hc : CallR X (.builtin id) r) (gv : BltGives C f r) (hg : Gl X x) (hm : X.mg x = none) (hv : bootBuiltins x = some (.builtin id))
    (ha : PA X (e :: es) (tMs C W (eArgs ms))) (hn : x ≠ "__name__") (hdb : (x == ("__debug__" : Str)) = false) (hst : (e :: es).all noStar = true) : PE X (.Call (.Name x p) (e :: es) [] pos) (tM C W (eBlt f ms)) := by
  have h1 := hst
  rw [List.all_cons, Bool.and_eq_true] at h1
  exact PE.weak (pe_callB hc hg hm hv ha hn hdb (starEach_cons h1.1) (starEach_any h1.2)) fun σ H Q ⟨ρ, c, S, sr, q⟩ => ⟨ρ, c, S, sr, (RWs.bind q).imp fun vs H1 ⟨rs, x1, r1, q1⟩ => gv W _ σ H H1 Q vs rs (sr.ex x1).trk r1 q1⟩
theorem pe_tyM {T : String} {r : List V → Hp → VK → Prop} {f : List R → Res R} (hc : CallR X (.type T) r) (gv : BltGives C f r) (hg : Gl X x) (hm : X.mg x = none) (hv : bootBuiltins x = some (.type T))
    (ha : PA X (e :: es) (tMs C W (eArgs ms))) (hn : x ≠ "__name__") (hdb : (x == ("__debug__" : Str)) = false) (hst : (e :: es).all noStar = true) : PE X (.Call (.Name x p) (e :: es) [] pos) (tM C W (eBlt f ms)) := by
  have h1 := hst
  rw [List.all_cons, Bool.and_eq_true] at h1
  exact PE.weak (pe_callTy hc hg hm hv ha hn hdb (starEach_cons h1.1) (starEach_any h1.2)) fun σ H Q ⟨ρ, c, S, sr, q⟩ => ⟨ρ, c, S, sr, (RWs.bind q).imp fun vs H1 ⟨rs, x1, r1, q1⟩ => gv W _ σ H H1 Q vs rs (sr.ex x1).trk r1 q1⟩
def rLenX (K : PySem.W.Frag) : List V → Hp → VK → Prop := fun xs H Q => (∃ x n, xs = [x] ∧ LenV K x H n ∧ Q (.int n) H) ∨ ∃ a kvs, xs = [V.ref a] ∧ Rd H a (.dK kvs) ∧ Q (.int kvs.length) H
theorem call_lenX : CallR X (.builtin "len") (rLenX X.K) := call_len.or (by
  intro pins s σ H xs us Q I r h
  obtain ⟨a, kvs, rfl, e, q⟩ := h
  obtain ⟨u, rfl, rx⟩ := vals1 r
  cases (show u = Value.ref a from rx)
  exact d_len I e fun t s' I' => ⟨.int kvs.length, H, I', ⟨t, rfl⟩, q⟩)
theorem gv_len : BltGives C bLen (rLenX C.K) := by
  intro W P σ H0 H Q vs rs hP rp h
  unfold bLen at h
  split at h
  · next r =>
    obtain ⟨v, rfl, rv⟩ := paired1 rp
    split at h
    · next ds e =>
      obtain ⟨a, ws, rfl, h1, h2⟩ := rv.lst e
      exact .inl ⟨_, ds.length, rfl, .inl ⟨ws, h1, h2.length.symm⟩, rw_val h (by simp [Rp])⟩
    · next ds e =>
      obtain ⟨a, ws, rfl, h1, h2⟩ := rv.tup e
      exact .inl ⟨_, ds.length, rfl, .inr ⟨ws, h1, h2.length.symm⟩, rw_val h (by simp [Rp])⟩
    · next z e =>
      split at h
      · next l => obtain ⟨rfl, _⟩ := rv.str e; exact .inl ⟨_, z.length, rfl, ⟨lim_ok l, rfl⟩, rw_val h (by simp [Rp])⟩
      · exact h.elim
    · next ks ds e =>
      have q := rv.lent (by rw [e]; rfl)
      rw [e] at q
      obtain ⟨a, kvs, rfl, h1, _, _, h2⟩ := q
      have hl := h2.length
      rw [List.length_map] at hl
      exact .inr ⟨a, kvs, rfl, h1, rw_val h (by simp [Rp, hl])⟩
    · exact h.elim
  · exact h.elim
theorem gv_str : BltGives C bStr (fun xs H Q => ∃ i, xs = [.int i] ∧ i.natAbs.log2 < 1920 ∧ Q (.str (toString i)) H) := by
  intro W P σ H0 H Q vs rs hP rp h
  unfold bStr at h
  split at h
  · next r =>
    obtain ⟨v, rfl, rv⟩ := paired1 rp
    split at h
    · next i e =>
      split at h
      · next c =>
        rw [Bool.and_eq_true] at c
        have c1 := of_decide_eq_true c.1
        have c2 := of_decide_eq_true c.2
        have ei : i = ((i.toNat : Nat) : Int) := by omega
        refine ⟨i, by rw [rv.int e], by omega, ?_⟩
        have e2 : Str.ofString (toString i) = numS i.toNat := by
          have := numS_eq i.toNat
          rw [← ei] at this
          exact this
        have q := rw_val h (rp_str (strOk_num _))
        rw [← e2] at q
        exact q
      · exact h.elim
    · exact h.elim
  · exact h.elim
def rIntX : List V → Hp → VK → Prop := fun xs H Q => ((∃ i, xs = [.int i] ∧ Q (.int i) H) ∨ ∃ k, xs = [.bl k] ∧ Q (.int (if k then 1 else 0)) H) ∨ ∃ a n, xs = [.str a] ∧ PySem.intText? a = some n ∧ a.length ≤ 640 ∧ Q (.int n) H
theorem gv_int : BltGives C bInt rIntX := by
  intro W P σ H0 H Q vs rs hP rp h
  unfold bInt at h
  split at h
  · next r =>
    obtain ⟨v, rfl, rv⟩ := paired1 rp
    split at h
    · next i e => exact .inl (.inl ⟨i, by rw [rv.int e], rw_val h (by simp [Rp])⟩)
    · next b e => exact .inl (.inr ⟨b, by rw [rv.bl e], rw_val h (by simp [Rp])⟩)
    · next z e =>
      split at h
      · next n e2 =>
        split at h
        · next l => exact .inr ⟨z, n, by rw [(rv.str e).1], e2, l, rw_val h (by simp [Rp])⟩
        · exact h.elim
      · exact h.elim
    · exact h.elim
  · exact h.elim
theorem gv_list : BltGives C bList (fun xs H Q => ∃ p ys, xs = [.ref p] ∧ (SqL C.K H p ys ∨ SqT C.K H p ys) ∧ ∀ l, H l = none → Q (.ref l) (upd H l (.lst ys))) := by
  intro W P σ H0 H Q vs rs hP rp h
  unfold bList at h
  split at h
  · next r =>
    obtain ⟨v, rfl, rv⟩ := paired1 rp
    split at h
    · next ds e =>
      obtain ⟨a, ws, rfl, h1, h2⟩ := rv.lst e
      exact ⟨a, ws, rfl, .inl h1, rw_new h h2 hP⟩
    · next ds e =>
      obtain ⟨a, ws, rfl, h1, h2⟩ := rv.tup e
      exact ⟨a, ws, rfl, .inr h1, rw_new h h2 hP⟩
    · exact h.elim
  · exact h.elim
theorem gv_tuple : BltGives C bTuple (fun xs H Q => ∃ p ys, xs = [.ref p] ∧ ((SqL C.K H p ys ∧ ∀ l, H l = none → Q (.ref l) (upd H l (.tup ys))) ∨ (SqT C.K H p ys ∧ Q (.ref p) H))) := by
  intro W P σ H0 H Q vs rs hP rp h
  unfold bTuple at h
  split at h
  · next r =>
    obtain ⟨v, rfl, rv⟩ := paired1 rp
    split at h
    · next ds e =>
      obtain ⟨a, ws, rfl, h1, h2⟩ := rv.lst e
      exact ⟨a, ws, rfl, .inl ⟨h1, rw_newT h h2 hP⟩⟩
    · next ds e =>
      split at h
      · next hx =>
        have h4 : Rp H P v (.tup ds) := by
          cases r with
          | val d => cases e; exact rv
          | own d => cases e; obtain ⟨_, _, _, _, z⟩ := rv; exact z.elim
          | bor d => cases hx
        have h5 := h4
        simp only [Rp] at h5
        obtain ⟨a, ws, rfl, np, hq, hr⟩ := h5
        exact ⟨a, ws, rfl, .inr ⟨SqT.of hq, rw_val h h4⟩⟩
      · exact h.elim
    · exact h.elim
  · exact h.elim
theorem gv_all : BltGives C bAll (rAll C.K) := by
  intro W P σ H0 H Q vs rs hP rp h
  unfold bAll at h
  split at h
  · next r =>
    obtain ⟨v, rfl, rv⟩ := paired1 rp
    split at h
    · next ds e =>
      obtain ⟨a, ws, rfl, h1, h2⟩ := rv.lst e
      split at h
      · next bs e2 => rw [h2.bls e2] at h1; exact ⟨a, bs, rfl, h1, rw_val h (by simp [Rp])⟩
      · exact h.elim
    · exact h.elim
  · exact h.elim
theorem gv_any : BltGives C bAny (rAny C.K) := by
  intro W P σ H0 H Q vs rs hP rp h
  unfold bAny at h
  split at h
  · next r =>
    obtain ⟨v, rfl, rv⟩ := paired1 rp
    split at h
    · next ds e =>
      obtain ⟨a, ws, rfl, h1, h2⟩ := rv.lst e
      split at h
      · next bs e2 => rw [h2.bls e2] at h1; exact ⟨a, bs, rfl, h1, rw_val h (by simp [Rp])⟩
      · exact h.elim
    · exact h.elim
  · exact h.elim
theorem gv_sum : BltGives C bSum (rSum C.K) := by
  intro W P σ H0 H Q vs rs hP rp h
  unfold bSum at h
  split at h
  · next r =>
    obtain ⟨v, rfl, rv⟩ := paired1 rp
    split at h
    · next ds e =>
      obtain ⟨a, ws, rfl, h1, h2⟩ := rv.lst e
      split at h
      · next bs e2 => rw [h2.ints' e2] at h1; exact ⟨a, bs, rfl, h1, rw_val h (by simp [Rp])⟩
      · exact h.elim
    · exact h.elim
  · exact h.elim
theorem gv_min : BltGives C bMin (fun xs H Q => ∃ i j, xs = [.int i, .int j] ∧ Q (.int (if j < i then j else i)) H) := by
  intro W P σ H0 H Q vs rs hP rp h
  unfold bMin at h
  split at h
  · next r r' =>
    obtain ⟨v, v', rfl, rv, rv'⟩ := paired2 rp
    split at h
    · next i j e e' => exact ⟨i, j, by rw [rv.int e, rv'.int e'], rw_val h (by simp [Rp])⟩
    · exact h.elim
  · exact h.elim
theorem gv_max : BltGives C bMax (fun xs H Q => ∃ i j, xs = [.int i, .int j] ∧ Q (.int (if j > i then j else i)) H) := by
  intro W P σ H0 H Q vs rs hP rp h
  unfold bMax at h
  split at h
  · next r r' =>
    obtain ⟨v, v', rfl, rv, rv'⟩ := paired2 rp
    split at h
    · next i j e e' => exact ⟨i, j, by rw [rv.int e, rv'.int e'], rw_val h (by simp [Rp])⟩
    · exact h.elim
  · exact h.elim
/-- isinstance(e, T), T a built-in type's name -/
theorem kit_all : ∀ t ∈ ["NoneType", "bool", "int", "str", "tuple", "list"], ∀ T ∈ ["str", "int", "bool", "list", "tuple", "dict"], kitB t T = some (t == T || (t == "bool" && T == "int")) := by decide +kernel
theorem RR.ty {K : PySem.W.Frag} {H0 H : Hp} {P : Addr → Prop} {v : V} {r : R} {t : String} (h : RR K H0 H P v r) (e : tyD r.d = some t) : TyX K H v (.type t) := by
  cases q : r.d with
  | non => rw [q] at e; cases e; rw [h.non q]; exact .base .non
  | bl b => rw [q] at e; cases e; rw [h.bl q]; exact .base (.bl b)
  | int b => rw [q] at e; cases e; rw [h.int q]; exact .base (.int b)
  | str b => rw [q] at e; cases e; rw [(h.str q).1]; exact .base (.str b)
  | tup ds =>
    rw [q] at e; cases e
    obtain ⟨a, vs, rfl, h1, h2⟩ := h.tup q
    rcases h1 with (h1 | ⟨o, h1⟩) | ⟨o, its, n, h1, h3, _⟩
    · exact .base (.tup h1)
    · exact .fTuple h1
    · exact .kTuple h1 h3
  | lst ds =>
    rw [q] at e; cases e
    obtain ⟨a, vs, rfl, h1, h2⟩ := h.lst q
    rcases h1 with (h1 | ⟨o, h1⟩) | ⟨o, its, n, h1, h3, _⟩
    · exact .base (.lst h1)
    · exact .base (.frz h1)
    · exact .kList h1 h3
  | dct _ _ _ => rw [q] at e; cases e
theorem tyD_mem {d : D} {t : String} (h : tyD d = some t) : t ∈ ["NoneType", "bool", "int", "str", "tuple", "list"] := by
  cases d <;> simp [tyD] at h <;> subst h <;> decide
theorem pe_isiM {T : String} {x : Str} {p' : Pos} (hK : X.K = C.K) (hg : Gl X "isinstance") (hm : X.mg "isinstance" = none) (hgT : Gl X x) (hmT : X.mg x = none) (hvT : bootBuiltins x = some (.type T)) (hn : x ≠ "__name__") (hdb : (x == ("__debug__" : Str)) = false)
    (he : PE X e (tM C W m)) (hst : noStar e = true) : PE X (.Call (.Name "isinstance" p) [e, .Name x p'] [] pos) (tM C W (eIsi T m)) := by
  refine PE.weak (pe_callB call_isi hg hm (by decide +kernel) (pa_cons he (pa_cons (pe_bltn (v := .ty T) hgT hmT hvT rfl hn hdb) pa_nil (starEach_cons rfl)) (starEach_cons hst)) (by decide) (by decide) (starEach_cons hst) (starEach_any rfl)) fun σ H Q ⟨ρ, c, S, sr, q⟩ => ?_
  refine ⟨ρ, c, S, sr, (RW.bind q).imp fun v H1 ⟨r, x1, r1, q1⟩ => ?_⟩
  split at q1
  · next b e2 =>
    unfold isT at e2
    split at e2
    · next t et =>
      split at e2
      · next hT =>
        cases e2
        refine ⟨v, .ty T, .type t, .type T, _, rfl, .ty T, ?_, kit_ty (kit_all t (tyD_mem et) T (List.contains_iff_mem.mp hT)), rw_bl q1⟩
        rw [hK]
        exact r1.ty et
      · cases e2
    · cases e2
  · exact q1.elim

/-! ### methods of built-ins -/
def mJoin (x y : R) : Res R := match x.d, y.d with
  | .str a, .lst ds => (match stsL ds with
    | some ys => if (ys.map (·.length)).sum + ys.length * a.length ≤ LIM then .ok (.val (.str (Str.join a ys))) else .stuck
    | none => .stuck)
  | _, _ => .stuck
theorem strOk_join {a : Str} (h : strOk a = true) : ∀ {ys : List Str}, (∀ x ∈ ys, strOk x = true) → strOk (Str.join a ys) = true
  | [], _ => by show strOk ⟨([] : List Nat).toArray⟩ = true; rw [strOk_mk]; intro c hc; cases hc
  | [x], hy => hy x (by simp)
  | x :: y :: r, hy => by
    show strOk (x ++ a ++ Str.join a (y :: r)) = true
    exact strOk_append (strOk_append (hy x (by simp)) h) (strOk_join h fun z hz => hy z (List.mem_cons_of_mem _ hz))
/-- sep.join(e) -/
def eJoin (mo m : Env → Res R) (ρ : Env) : Res R := (mo ρ).bind fun x => match x.d with
  | .str a => (m ρ).bind fun y => mJoin x y
  | _ => .stuck
theorem pe_joinM (hK : X.K = C.K) (ho : PE X o (tM C W mo)) (he : PE X e (tM C W m)) (hst : noStar e = true) (hb : plainBase o = true) (hl : (apos.endLine == pos.line) = true) :
    PE X (.Call (.Attribute o "join" apos) [e] [] pos) (tM C W (eJoin mo m)) := by
  refine PE.weak (pe_join ho he (by rw [starEach_cons hst]; rfl) (base_ok hb) hl) fun σ H Q ⟨ρ, c, S, sr, h⟩ => ⟨ρ, c, S, sr, (RW.bind h).imp fun v H1 ⟨x, x1, r1, q1⟩ => ?_⟩
  split at q1
  · next a ea =>
    obtain ⟨rfl, oa⟩ := r1.str ea
    refine ⟨⟨a, rfl⟩, ρ, c, S, sr.ex x1, (RW.bind q1).imp fun u H2 ⟨y, x2, r2, q2⟩ => ?_⟩
    unfold mJoin at q2
    rw [ea] at q2
    split at q2
    · next a' ds e1 e2 =>
      cases e1
      obtain ⟨p, vs, rfl, h1, h2⟩ := r2.lst e2
      split at q2
      · next ys e3 =>
        obtain ⟨rfl, oy⟩ := h2.stsL e3
        split at q2
        · next hz =>
          rw [hK]
          refine ⟨a, p, ys, rfl, rfl, .inl h1, Nat.le_trans hz (by decide), ?_⟩
          rw [TL.join_eq]
          exact rw_val q2 (rp_str (strOk_join oa oy))
        · exact q2.elim
      · exact q2.elim
    · exact q2.elim
  · exact q1.elim
/-- d.get(k, x) -/
def mGet2 (x y z : R) : Res R := match x.d with
  | .dct tk ks ds => (match dKey tk y with
    | some k => (match dctGet ks ds k with
      | some d => .ok (.val d)
      | none => .ok z)
    | none => .stuck)
  | _ => .stuck
def isDct : D → Bool
  | .dct _ _ _ => true
  | _ => false
def eGet2 (mo m m' : Env → Res R) (ρ : Env) : Res R := (mo ρ).bind fun x => if isDct x.d then (m ρ).bind fun y => (m' ρ).bind fun z => mGet2 x y z else .stuck
def eGet1 (mo m : Env → Res R) (ρ : Env) : Res R := (mo ρ).bind fun x => if isDct x.d then (m ρ).bind fun y => mGet2 x y (.val .non) else .stuck
theorem RR.isD {K : PySem.W.Frag} {H0 H : Hp} {P : Addr → Prop} {v : V} {r : R} (h : RR K H0 H P v r) (e : isDct r.d = true) : ∃ a, v = .ref a ∧ IsD H a := by
  cases q : r.d with
  | dct tk ks ds =>
    have l := h.lent (by rw [q]; rfl)
    rw [q] at l
    cases tk with
    | false => obtain ⟨a, kvs, rfl, h1, _⟩ := l; exact ⟨a, rfl, .inl ⟨kvs, h1⟩⟩
    | true => obtain ⟨a, kvs, rfl, h1, _⟩ := l; exact ⟨a, rfl, .inr ⟨kvs, h1⟩⟩
  | _ => rw [q] at e; cases e
theorem get2_ok {P : Addr → Prop} {σ : L2.St} {H0 Ha Hb H : Hp} {Q : VK} {v u w : V} {x y z : R} (e0 : Ex H0 H) (rv : RR C.K Ha H P v x) (ru : RR C.K Hb H P u y) (rz : RR C.K H0 H P w z) (h : RW C W P σ H0 (mGet2 x y z) Q) :
    ∃ a o, v = .ref a ∧ DGet H a u o ∧ Q (o.getD w) H := by
  unfold mGet2 at h
  split at h
  · next tk ks ds e =>
    split at h
    · next k ek =>
      obtain ⟨a, o, hv, hg, hr⟩ := look_ok (rv.mono (H0' := fun _ => none) (fun _ _ z => nomatch z) (Ex.refl _)) e (ru.mono (H0' := fun _ => none) (fun _ _ z => nomatch z) (Ex.refl _)) ek
      refine ⟨a, o, hv, hg, ?_⟩
      split at h
      · next d e2 =>
        rw [e2] at hr
        cases o with
        | none => exact hr.elim
        | some w' => exact h w' H e0 hr
      · next e2 =>
        rw [e2] at hr
        cases o with
        | none => exact h w H e0 rz
        | some w' => exact hr.elim
    · exact h.elim
  · exact h.elim
theorem m1_of {e : Expr} {m : Str} {cpos : Pos} (hb : plainBase o = true) (hst : noStar e = true) (hl : (apos.endLine == cpos.line) = true) : M1 X o m apos e cpos :=
  ⟨base_ok hb, by rw [starEach_all (es := [e]) (by simp [hst])]; rfl, hl, by rw [starEach_cons hst]; rfl⟩
theorem m2_of {e f : Expr} {m : Str} {cpos : Pos} (hb : plainBase o = true) (hst : noStar e = true) (hst' : noStar f = true) (hl : (apos.endLine == cpos.line) = true) : M2 X o m apos e f cpos :=
  ⟨base_ok hb, by rw [starEach_all (es := [e, f]) (by simp [hst, hst'])]; rfl, hl, by rw [starEach_cons hst, starEach_cons hst']; rfl⟩
theorem pe_get2M {f : Expr} {m' : Env → Res R} (hu : X.A.units + 200 < cLine) (ho : PE X o (tM C W mo)) (he : PE X e (tM C W m)) (hf : PE X f (tM C W m')) (hb : plainBase o = true) (hst : noStar e = true) (hst' : noStar f = true) (hl : (apos.endLine == pos.line) = true) :
    PE X (.Call (.Attribute o "get" apos) [e, f] [] pos) (tM C W (eGet2 mo m m')) := by
  refine PE.weak (pe_dget2 (by omega) ho he hf (m2_of hb hst hst' hl)) fun σ H Q ⟨ρ, c, S, sr, h⟩ => ⟨ρ, c, S, sr, (RW.bind h).imp fun v H1 ⟨x, x1, r1, q1⟩ => ?_⟩
  split at q1
  · next hd =>
    obtain ⟨a, rfl, ha⟩ := r1.isD hd
    refine ⟨a, rfl, ha, ρ, c, S, sr.ex x1, (RW.bind q1).imp fun u H2 ⟨y, x2, r2, q2⟩ => ⟨ρ, c, S, (sr.ex x1).ex x2, ?_⟩⟩
    -- the default's result, seen from its own start
    cases e3 : m' ρ with
    | stuck => rw [e3] at q2; exact q2.elim
    | exc k pl => rw [e3] at q2; exact q2
    | ok z =>
      rw [e3, Res.bind_ok] at q2
      intro w H3 x3 r3
      obtain ⟨a', o', ea, hg, hq⟩ := get2_ok x3 (r1.mono (Ex.refl _) (x2.trans x3)) (r2.mono (Ex.refl _) x3) r3 q2
      cases ea
      exact ⟨o', hg, hq⟩
  · exact q1.elim
end
end Mp

namespace Mp
open PySem L2

/-! ### what is walked -/
/-- J yields ds, as long as what stood at Hs stays, but for O -/
structure Src (Hs : Hp) (O P : Addr → Prop) (J : It) (ds : List D) : Prop where
  go : ∀ i H, Fr O Hs H → i < ds.length → J.go i H
  yld : ∀ i H x H' d (P' : Addr → Prop), Fr O Hs H → (∀ a, P' a → P a ∨ Hs a = none) → (∀ a, P' a → ∃ o, H a = some o) → ds[i]? = some d → J.yld i H x H' → Ex H H' ∧ Rp H' P' x d
  stop : ∀ i H, Fr O Hs H → ds.length ≤ i → J.stop i H
theorem fr_rd {O : Addr → Prop} {H H' : Hp} (f : Fr O H H') {a : Addr} {u : HO} (n : ¬ O a) (h : Rd H a u) : Rd H' a u := by
  rcases h with h | ⟨o, h⟩
  · exact .inl (f _ _ n h)
  · exact .inr ⟨o, f _ _ n h⟩
/-- a root that stays -/
def StayL (K : PySem.W.Frag) (H : Hp) (O : Addr → Prop) (a : Addr) (xs : List V) : Prop := (¬ O a ∧ Rd H a (.lst xs)) ∨ ∀ H', SqL K H' a xs
def StayT (K : PySem.W.Frag) (H : Hp) (O : Addr → Prop) (a : Addr) (xs : List V) : Prop := (¬ O a ∧ Rd H a (.tup xs)) ∨ ∀ H', SqT K H' a xs
theorem StayL.now {K : PySem.W.Frag} {Hs H : Hp} {O : Addr → Prop} {a : Addr} {xs : List V} (h : StayL K Hs O a xs) (f : Fr O Hs H) : SqL K H a xs := h.elim (fun z => .inl (fr_rd f z.1 z.2)) (fun z => z H)
theorem StayT.now {K : PySem.W.Frag} {Hs H : Hp} {O : Addr → Prop} {a : Addr} {xs : List V} (h : StayT K Hs O a xs) (f : Fr O Hs H) : SqT K H a xs := h.elim (fun z => .inl (fr_rd f z.1 z.2)) (fun z => z H)
theorem rp_keep {Hs H : Hp} {O P P' : Addr → Prop} (hO : ∀ a, O a → P a) (f : Fr O Hs H) (n : ∀ a, P' a → P a ∨ Hs a = none) {v : V} {d : D} (h : Rp Hs P v d) : Rp H P' v d :=
  h.move (fun a o p q => f a o (fun z => p (hO a z)) q) fun a o p q z => (n a z).elim p fun z => by rw [z] at q; cases q
theorem rps_keep {Hs H : Hp} {O P P' : Addr → Prop} (hO : ∀ a, O a → P a) (f : Fr O Hs H) (n : ∀ a, P' a → P a ∨ Hs a = none) {v : List V} {d : List D} (h : Rps Hs P v d) : Rps H P' v d :=
  h.move (fun a o p q => f a o (fun z => p (hO a z)) q) fun a o p q z => (n a z).elim p fun z => by rw [z] at q; cases q
theorem src_list {K : PySem.W.Frag} {Hs : Hp} {O P : Addr → Prop} {a : Addr} {xs : List V} {ds : List D} (hO : ∀ a, O a → P a) (h : StayL K Hs O a xs) (r : Rps Hs P xs ds) : Src Hs O P (Itl K a) ds where
  go := fun i H f hi => ⟨xs, xs[i]'(by rw [r.length]; exact hi), h.now f, List.getElem?_eq_getElem _⟩
  yld := fun i H x H' d P' f n _ hd y => by
    obtain ⟨rfl, y⟩ := y
    have hx := y xs (h.now f)
    obtain ⟨d', h1, h2⟩ := r.get' hx
    rw [hd] at h1
    cases h1
    exact ⟨Ex.refl _, rp_keep hO f n h2⟩
  stop := fun i H f hi => ⟨xs, h.now f, by rw [r.length]; exact hi⟩
theorem src_tup {K : PySem.W.Frag} {Hs : Hp} {O P : Addr → Prop} {a : Addr} {xs : List V} {ds : List D} (hO : ∀ a, O a → P a) (h : StayT K Hs O a xs) (r : Rps Hs P xs ds) : Src Hs O P (Itt K a) ds where
  go := fun i H f hi => ⟨xs, xs[i]'(by rw [r.length]; exact hi), h.now f, List.getElem?_eq_getElem _⟩
  yld := fun i H x H' d P' f n _ hd y => by
    obtain ⟨rfl, y⟩ := y
    have hx := y xs (h.now f)
    obtain ⟨d', h1, h2⟩ := r.get' hx
    rw [hd] at h1
    cases h1
    exact ⟨Ex.refl _, rp_keep hO f n h2⟩
  stop := fun i H f hi => ⟨xs, h.now f, by rw [r.length]; exact hi⟩
def signs (z : Str) : List D := z.cps.toList.map fun c => .str ⟨#[c]⟩
theorem src_str {Hs : Hp} {O P : Addr → Prop} {z : Str} (ok : strOk z = true) : Src Hs O P (Its z) (signs z) where
  go := fun i H f hi => (show i < z.cps.size by simpa [signs] using hi)
  yld := fun i H x H' d P' f n _ hd y => by
    obtain ⟨rfl, c, hc, rfl⟩ := y
    rw [signs, List.getElem?_map, Array.getElem?_toList, hc] at hd
    cases hd
    exact ⟨Ex.refl _, rp_str (strOk_sign ok (by rw [← Array.getElem?_toList] at hc; exact List.mem_of_getElem? hc))⟩
  stop := fun i H f hi => (show z.cps.size ≤ i by simpa [signs] using hi)
def rngD (lo : Int) (n : Nat) : List D := (List.range n).map fun i => .int (lo + (i : Nat))
theorem src_rng {Hs : Hp} {O P : Addr → Prop} {lo : Int} {n : Nat} : Src Hs O P (Itr lo n) (rngD lo n) where
  go := fun i H f hi => (show i < n by simpa [rngD] using hi)
  yld := fun i H x H' d P' f n _ hd y => by
    obtain ⟨rfl, rfl⟩ := y
    refine ⟨Ex.refl _, ?_⟩
    rw [rngD, List.getElem?_map] at hd
    cases q : (List.range _)[i]? with
    | none => rw [q] at hd; cases hd
    | some j =>
      rw [q] at hd
      cases hd
      have : j = i := by
        obtain ⟨h1, h2⟩ := List.getElem?_eq_some_iff.mp q
        rw [List.getElem_range] at h2
        exact h2.symm
      subst this
      simp [Rp]
  stop := fun i H f hi => (show n ≤ i by simpa [rngD] using hi)

/-- the items of what is walked, and whether it may be walked while things change -/
def itemsD (r : R) : Res (List D) := match r.d with
  | .lst ds => .ok ds
  | .tup ds => .ok ds
  | .str z => if z.length ≤ LIM then .ok (signs z) else .stuck
  | _ => .stuck
def toRes {α : Type} (x : Res R) (f : R → Res α) : Res α := match x with
  | .ok r => f r
  | .exc c pl => .exc c pl
  | .stuck => .stuck
def eSeq (m : Env → Res R) (ρ : Env) : Res (List D) := toRes (m ρ) itemsD
def eSeqX (m : Env → Res R) (ρ : Env) : Res (List D) := toRes (m ρ) fun r => if r.exact then itemsD r else .stuck
def rng1 (r : R) : Res (List D) := match r.d with
  | .int n => if decide (n ≤ 1000000) && decide (-1000000 ≤ n) then .ok (rngD 0 n.toNat) else .stuck
  | _ => .stuck
def rng2 (r r' : R) : Res (List D) := match r.d, r'.d with
  | .int i, .int j => if decide (i ≤ 1000000) && decide (-1000000 ≤ i) && decide (j ≤ 1000000) && decide (-1000000 ≤ j) then .ok (rngD i (j - i).toNat) else .stuck
  | _, _ => .stuck
def eRng (ms : List (Env → Res R)) (ρ : Env) : Res (List D) := match eArgs ms ρ with
  | .ok [r] => rng1 r
  | .ok [r, r'] => rng2 r r'
  | .ok _ => .stuck
  | .exc c pl => .exc c pl
  | .stuck => .stuck
/-- the reading of what is walked: weak for a comprehension, strong (x = true) for a loop -/
def tI (C : Cn) (W : WX) (x : Bool) (m : Env → Res (List D)) : TI := fun σ H R => ∃ ρ c S, SR C.K σ H ρ c S ∧ match m ρ with
  | .ok ds => ∀ H1 J, Ex H H1 → Src H1 (fun a => x = true ∧ Cel c a) (Mp.Own c S) J ds → R J H1
  | .exc k pl => ∀ H' d, Ex H H' → XP H' (Mp.Own c S) d pl → W (.ref (C.ca k)) d σ H'
  | .stuck => False
def iSeq (K : PySem.W.Frag) (te : TE) : TI := fun σ H R => te σ H fun v H1 => (∃ a xs, v = .ref a ∧ SqL K H1 a xs ∧ R (Itl K a) H1) ∨ (∃ a xs, v = .ref a ∧ SqT K H1 a xs ∧ R (Itt K a) H1) ∨ ∃ z, v = .str z ∧ R (Its z) H1
section
variable {X : Cx} {C : Cn} {W : WX} {tg e : Expr} {te : TE} {m : Env → Res R}
theorem pi_seq (he : PE X e te) : PI X tg e (iSeq X.K te) := by
  refine ⟨fun pins s σ H R I h => ?_⟩
  refine thn (he.run pins s σ H _ I h) fun v s1 ⟨x, H1, I1, r1, q1⟩ => ?_
  rcases q1 with ⟨a, xs, ex, hq, q⟩ | ⟨a, xs, ex, hq, q⟩ | ⟨z, ex, q⟩
  · subst ex
    cases r1
    obtain ⟨its, rv, p, hz⟩ := I1.list hq
    refine wpAny_pyIter_list p.isList ?_
    refine ⟨s1.heap.objs.size, [s1.heap.objs.size], _, _, H1, rfl, I1.kept (t' := s1.toks) fun b o e => Heap.get?_push_of_some _ e, turn_list a _, ⟨_, Heap.get?_push_size _ rfl, rfl, rfl⟩, fun b hb => ?_, q⟩
    have e : b = s1.heap.objs.size := by simpa using hb
    subst e
    exact I1.fpOk (Nat.le_refl _) (I1.hok.fresh (Nat.le_refl _))
  · subst ex
    cases r1
    obtain ⟨its, rv, p, hz⟩ := I1.tuple hq
    refine wpAny_pyIter_tuple (show s1.heap.IsTuple a its.toArray from p) ?_
    refine ⟨s1.heap.objs.size, [s1.heap.objs.size], _, _, H1, rfl, I1.kept (t' := s1.toks) fun b o e => Heap.get?_push_of_some _ e, turn_tuple a _, ⟨_, Heap.get?_push_size _ rfl, rfl, rfl⟩, fun b hb => ?_, q⟩
    have e : b = s1.heap.objs.size := by simpa using hb
    subst e
    exact I1.fpOk (Nat.le_refl _) (I1.hok.fresh (Nat.le_refl _))
  · subst ex
    obtain ⟨t, rfl⟩ := r1
    cases ha : z.cps.all (· < 128)
    · exact wpAny_pyIter_wide ha (pi_one (tk := s1.toks) I1 _ (turn_str _ z t "str_iterator" (.inr rfl)) ⟨_, Heap.get?_push_size _ rfl, rfl, rfl⟩ q)
    · exact wpAny_pyIter_ascii ha (pi_one (tk := s1.toks) I1 _ (turn_str _ z t "str_ascii_iterator" (.inl rfl)) ⟨_, Heap.get?_push_size _ rfl, rfl, rfl⟩ q)
theorem PI.weak {t t' : TI} (h : PI X tg e t) (k : ∀ σ H R, t' σ H R → t σ H R) : PI X tg e t' := ⟨fun pins s σ H R I q => h.run pins s σ H R I (k σ H R q)⟩
/-- from a result to what is walked -/
theorem seq_src {K : PySem.W.Frag} {H0 H : Hp} {O P : Addr → Prop} {v : V} {r : R} {ds : List D} (hO : ∀ a, O a → P a) (rr : RR K H0 H P v r) (e : itemsD r = .ok ds) (x : r.exact = true ∨ ∀ a, ¬ O a) :
    (∃ a xs, v = .ref a ∧ SqL K H a xs ∧ Src H O P (Itl K a) ds) ∨ (∃ a xs, v = .ref a ∧ SqT K H a xs ∧ Src H O P (Itt K a) ds) ∨ ∃ z, v = .str z ∧ Src H O P (Its z) ds := by
  have np : ∀ {a}, v = .ref a → isSc r.d = false → ¬ O a ∨ ∀ a, ¬ O a := fun {a} ev ns => by
    rcases x with x | x
    · cases r with
      | val d =>
        left; intro z
        have h : Rp H P v d := rr
        cases d with
        | lst ds => simp only [Rp] at h; obtain ⟨a', _, e1, h1, _⟩ := h; rw [ev] at e1; cases e1; exact h1 (hO a z)
        | tup ds => simp only [Rp] at h; obtain ⟨a', _, e1, h1, _⟩ := h; rw [ev] at e1; cases e1; exact h1 (hO a z)
        | dct tk ks ds => cases tk <;> (simp only [Rp] at h; obtain ⟨a', _, e1, h1, _⟩ := h; rw [ev] at e1; cases e1; exact h1 (hO a z))
        | _ => simp [isSc] at ns
      | own d => left; intro z; obtain ⟨a', e1, _, h1, _⟩ := rr; rw [ev] at e1; cases e1; exact h1 (hO a z)
      | bor d => cases x
    · exact .inr x
  unfold itemsD at e
  split at e
  · next ds' e1 =>
    cases e
    obtain ⟨a, vs, hv, h1, h2⟩ := rr.lst e1
    refine .inl ⟨a, vs, hv, h1, src_list hO ?_ h2⟩
    rcases h1 with h1 | h1
    · exact .inl ⟨(np hv (by rw [e1]; rfl)).elim id (fun z => z a), h1⟩
    · exact .inr fun _ => .inr h1
  · next ds' e1 =>
    cases e
    obtain ⟨a, vs, hv, h1, h2⟩ := rr.tup e1
    refine .inr (.inl ⟨a, vs, hv, h1, src_tup hO ?_ h2⟩)
    rcases h1 with h1 | h1
    · exact .inl ⟨(np hv (by rw [e1]; rfl)).elim id (fun z => z a), h1⟩
    · exact .inr fun _ => .inr h1
  · next z e1 =>
    split at e
    · cases e
      obtain ⟨hv, ok⟩ := rr.str e1
      exact .inr (.inr ⟨z, hv, src_str ok⟩)
    · cases e
  · cases e
theorem pi_seqM (hK : X.K = C.K) (he : PE X e (tM C W m)) : PI X tg e (tI C W false (eSeq m)) :=
  PI.weak (pi_seq he) fun σ H R ⟨ρ, c, S, sr, h⟩ => by
    refine ⟨ρ, c, S, sr, ?_⟩
    unfold eSeq toRes at h
    cases e1 : m ρ with
    | stuck => rw [e1] at h; exact h.elim
    | exc k pl => rw [e1] at h; exact h
    | ok r =>
      rw [e1] at h
      simp only at h
      intro v H1 x1 r1
      cases e2 : itemsD r with
      | stuck => rw [e2] at h; exact h.elim
      | exc k pl => unfold itemsD at e2; split at e2 <;> first | cases e2 | (split at e2 <;> cases e2)
      | ok ds =>
        rw [e2] at h
        rw [hK]
        have := seq_src (O := fun a => false = true ∧ Cel c a) (fun a z => by cases z.1) r1 e2 (.inr fun a z => by cases z.1)
        rcases this with ⟨a, xs, h1, h2, h3⟩ | ⟨a, xs, h1, h2, h3⟩ | ⟨z, h1, h3⟩
        · exact .inl ⟨a, xs, h1, h2, h H1 _ x1 h3⟩
        · exact .inr (.inl ⟨a, xs, h1, h2, h H1 _ x1 h3⟩)
        · exact .inr (.inr ⟨z, h1, h H1 _ x1 h3⟩)
theorem pi_seqMX (hK : X.K = C.K) (he : PE X e (tM C W m)) : PI X tg e (tI C W true (eSeqX m)) :=
  PI.weak (pi_seq he) fun σ H R ⟨ρ, c, S, sr, h⟩ => by
    refine ⟨ρ, c, S, sr, ?_⟩
    unfold eSeqX toRes at h
    cases e1 : m ρ with
    | stuck => rw [e1] at h; exact h.elim
    | exc k pl => rw [e1] at h; exact h
    | ok r =>
      rw [e1] at h
      dsimp only at h
      intro v H1 x1 r1
      split at h
      · next ds ed =>
        split at ed
        · next hx =>
          rw [hK]
          have := seq_src (O := fun a => true = true ∧ Cel c a) (fun a z => .inl z.2) r1 ed (.inl hx)
          rcases this with ⟨a, xs, h1, h2, h3⟩ | ⟨a, xs, h1, h2, h3⟩ | ⟨z, h1, h3⟩
          · exact .inl ⟨a, xs, h1, h2, h H1 _ x1 h3⟩
          · exact .inr (.inl ⟨a, xs, h1, h2, h H1 _ x1 h3⟩)
          · exact .inr (.inr ⟨z, h1, h H1 _ x1 h3⟩)
        · cases ed
      · next k pl ed =>
        exfalso
        split at ed
        · unfold itemsD at ed; split at ed <;> first | cases ed | (split at ed <;> cases ed)
        · cases ed
      · exact h.elim
theorem pi_rngM {x : Bool} {es : List Expr} {ms : List (Env → Res R)} {p pos : Pos} (hg : Gl X "range") (hm : X.mg "range" = none) (ha : PA X es (tMs C W (eArgs ms))) (hst : es.all noStar = true) (hl : es.length = 1 ∨ es.length = 2) (hlm : ms.length = es.length) : PI X tg (.Call (.Name "range" p) es [] pos) (tI C W x (eRng ms)) := by
  have road : ∀ σ H (R : It → Hp → Prop) ρ c S, SR C.K σ H ρ c S → (match eRng ms ρ with
    | .ok ds => ∀ H1 J, Ex H H1 → Src H1 (fun a => x = true ∧ Cel c a) (Mp.Own c S) J ds → R J H1
    | .exc k pl => ∀ H' d, Ex H H' → XP H' (Mp.Own c S) d pl → W (.ref (C.ca k)) d σ H'
    | .stuck => False) → RWs C W (Mp.Own c S) σ H (eArgs ms ρ) fun vs H1 => ∃ rs, vs.length = rs.length ∧ Ex H H1 ∧ Paired (RR C.K H H1 (Mp.Own c S)) vs rs ∧ eArgs ms ρ = .ok rs := by
    intro σ H R ρ c S sr h
    unfold eRng at h
    cases e1 : eArgs ms ρ with
    | stuck => rw [e1] at h; exact h.elim
    | exc k pl => rw [e1] at h; exact h
    | ok rs => exact fun vs H1 x1 r1 => ⟨rs, Paired.length r1, x1, r1, rfl⟩
  have lenA : ∀ (ms : List (Env → Res R)) (ρ : Env) (rs : List R), eArgs ms ρ = .ok rs → rs.length = ms.length := by
    intro ms
    induction ms with
    | nil => intro ρ rs e; simp [eArgs] at e; subst e; rfl
    | cons m ms ih =>
      intro ρ rs e
      unfold eArgs at e
      split at e
      · split at e
        · next r _ rs' e2 => cases e; rw [List.length_cons, List.length_cons, ih _ _ e2]
        · cases e
        · cases e
      · cases e
      · cases e
  match es, hl, ha, hst, hlm with
  | [a], _, ha, hst, hlm =>
    simp only [List.all_cons, List.all_nil, Bool.and_true] at hst
    refine PI.weak (pi_range1 hg hm ha (by rw [starEach_cons hst]; rfl)) fun σ H R ⟨ρ, c, S, sr, h⟩ => ⟨ρ, c, S, sr, (road σ H R ρ c S sr h).imp fun vs H1 ⟨rs, _, x1, r1, er⟩ => ?_⟩
    have l := lenA ms ρ rs er
    rw [hlm] at l
    match rs, l, r1, er with
    | [r], _, r1, er =>
      obtain ⟨v, rfl, rv⟩ := paired1 r1
      unfold eRng at h
      rw [er] at h
      simp only [rng1] at h
      split at h
      · next ds ed =>
        split at ed
        · next n en =>
          split at ed
          · next cc =>
            cases ed
            rw [Bool.and_eq_true] at cc
            have c1 := of_decide_eq_true cc.1
            have c2 := of_decide_eq_true cc.2
            exact ⟨n, by rw [rv.int en], by omega, by omega, h H1 _ x1 src_rng⟩
          · cases ed
        · cases ed
      · next k pl ed => split at ed <;> first | cases ed | (split at ed <;> cases ed)
      · exact h.elim
  | [a, b], _, ha, hst, hlm =>
    simp only [List.all_cons, List.all_nil, Bool.and_true, Bool.and_eq_true] at hst
    refine PI.weak (pi_range2 hg hm ha (by rw [starEach_cons hst.1, starEach_cons hst.2]; rfl) (by rw [starEach_cons hst.2]; rfl)) fun σ H R ⟨ρ, c, S, sr, h⟩ => ⟨ρ, c, S, sr, (road σ H R ρ c S sr h).imp fun vs H1 ⟨rs, _, x1, r1, er⟩ => ?_⟩
    have l := lenA ms ρ rs er
    rw [hlm] at l
    match rs, l, r1, er with
    | [r, r'], _, r1, er =>
      obtain ⟨v, v', rfl, rv, rv'⟩ := paired2 r1
      unfold eRng at h
      rw [er] at h
      simp only [rng2] at h
      split at h
      · next ds ed =>
        split at ed
        · next i j ei ej =>
          split at ed
          · next cc =>
            cases ed
            rw [Bool.and_eq_true, Bool.and_eq_true, Bool.and_eq_true] at cc
            have c1 := of_decide_eq_true cc.1.1.1
            have c2 := of_decide_eq_true cc.1.1.2
            have c3 := of_decide_eq_true cc.1.2
            have c4 := of_decide_eq_true cc.2
            exact ⟨i, j, by rw [rv.int ei, rv'.int ej], ⟨by omega, by omega, by omega, by omega⟩, h H1 _ x1 src_rng⟩
          · cases ed
        · cases ed
      · next k pl ed => split at ed <;> first | cases ed | (split at ed <;> cases ed)
      · exact h.elim
end
end Mp

namespace Mp
open PySem L2

/-! ### targets -/
def setAll {α : Type} : List (Option α) → List Nat → List α → List (Option α)
  | l, i :: is, x :: xs => setAll (l.set i (some x)) is xs
  | l, _, _ => l
theorem setAll_len {α : Type} : ∀ (is : List Nat) (xs : List α) (l : List (Option α)), (setAll l is xs).length = l.length
  | [], _, _ => by simp [setAll]
  | _ :: _, [], _ => by simp [setAll]
  | i :: is, x :: xs, l => by simp only [setAll]; rw [setAll_len is xs]; simp
def gNames : List Nat → TGs
  | [] => gNil
  | i :: is => gCons (gName i) (gNames is)
theorem gNames_ok : ∀ (is : List Nat) (vs : List V) (σ : L2.St) (H : Hp) (Q : L2.St → Hp → Prop), vs.length = is.length → Q (setAll σ is vs) H → gNames is vs σ H Q
  | [], [], σ, H, Q, _, q => ⟨rfl, q⟩
  | [], _ :: _, _, _, _, h, _ => by simp at h
  | _ :: _, [], _, _, _, h, _ => by simp at h
  | i :: is, v :: vs, σ, H, Q, h, q => ⟨v, vs, rfl, gNames_ok is vs _ H Q (by simpa using h) q⟩
/-- the names of a tuple target, by their places -/
def tgNames (N : List Str) : List Expr → Option (List (Str × Nat))
  | [] => some []
  | .Name x _ :: es => match N.findIdx? (· == x), tgNames N es with
    | some i, some r => some ((x, i) :: r)
    | _, _ => none
  | _ => none
theorem find_ix {N : List Str} {x : Str} {i : Nat} (h : N.findIdx? (· == x) = some i) : N[i]? = some x := by
  obtain ⟨h1, h2, _⟩ := List.findIdx?_eq_some_iff_getElem.mp h
  rw [List.getElem?_eq_getElem h1]
  exact congrArg some (eq_of_beq h2)
section
variable {X : Cx}
/-- each name may be stored -/
def StOk (X : Cx) (l : List (Str × Nat)) : Prop := ∀ p ∈ l, Loc X.env.scope p.1 ∧ (X.fn p.1 = true ∨ X.env.scope.names.lookup p.1 = some .local)
theorem pgs_of (hN : X.N.Nodup) : ∀ {es : List Expr} {l : List (Str × Nat)}, tgNames X.N es = some l → StOk X l → PGs X es (gNames (l.map (·.2)))
  | [], l, h, _ => by simp [tgNames] at h; subst h; exact pgs_nil
  | e :: es, l, h, ok => by
    cases e <;> try (simp [tgNames] at h; done)
    next x p =>
    simp only [tgNames] at h
    split at h
    · next i r e1 e2 =>
      cases h
      obtain ⟨h1, h2⟩ := ok (x, i) List.mem_cons_self
      exact pgs_cons (pg_name hN (find_ix e1) h1 h2) (pgs_of hN e2 fun p hp => ok p (List.mem_cons_of_mem _ hp)) rfl
    · cases h
theorem tgNames_each {N : List Str} {env : PySem.Env} : ∀ {es : List Expr} {l : List (Str × Nat)}, tgNames N es = some l → (assignEach es env).length = l.length ∧ (assignEach es env).findIdx? (·.1) = none
  | [], l, h => by simp [tgNames] at h; subst h; exact ⟨rfl, rfl⟩
  | e :: es, l, h => by
    cases e <;> try (simp [tgNames] at h; done)
    next x p =>
    simp only [tgNames] at h
    split at h
    · next i r e1 e2 =>
      cases h
      obtain ⟨q1, q2⟩ := tgNames_each (env := env) e2
      refine ⟨by show (assignEach es env).length + 1 = _; rw [q1]; rfl, ?_⟩
      show List.findIdx? (·.1) ((false, _) :: assignEach es env) = none
      rw [List.findIdx?_cons, q2]
      rfl
    · cases h
end
/-- a target: a name, or names in a tuple -/
inductive Tg where
  | one (i : Nat) | many (is : List Nat)
def Tg.slots : Tg → List Nat
  | .one i => [i]
  | .many is => is
def vals (ds : List D) : List R := ds.map .val
def bindD (t : Tg) (d : D) (ρ : Env) : Option Env := match t with
  | .one i => some (ρ.set i (some (.val d)))
  | .many is => match d with
    | .tup ds => if ds.length = is.length then some (setAll ρ is (vals ds)) else none
    | _ => none
/-- the reading of a target -/
def tgT (K : PySem.W.Frag) : Tg → TG
  | .one i => gName i
  | .many is => gTup K is.length (gNames is)
theorem tup_same {K : PySem.W.Frag} {H : Hp} {P : Addr → Prop} {a : Addr} {ds : List D} (h : Rp H P (.ref a) (.tup ds)) : ∃ vs, SqT K H a vs ∧ Rps H P vs ds := by
  simp only [Rp] at h
  obtain ⟨a', vs, e, _, h1, h2⟩ := h
  cases e
  exact ⟨vs, SqT.of h1, h2⟩

/-! ### slots: forgotten, set -/
def wipeE (ρ : Env) : List Nat → Env
  | [] => ρ
  | i :: is => (wipeE ρ is).set i none
theorem wipeE_len (ρ : Env) : ∀ is, (wipeE ρ is).length = ρ.length
  | [] => rfl
  | i :: is => by rw [wipeE, List.length_set, wipeE_len]
theorem wipeE_some {ρ : Env} {i : Nat} {r : R} : ∀ {is : List Nat}, (wipeE ρ is)[i]? = some (some r) → ρ[i]? = some (some r) ∧ i ∉ is
  | [], h => ⟨h, by simp⟩
  | j :: is, h => by
    unfold wipeE at h
    by_cases hi : j = i
    · subst hi
      by_cases hv : j < (wipeE ρ is).length
      · rw [List.getElem?_set_self hv] at h; cases h
      · rw [List.getElem?_eq_none (by simpa using hv)] at h; cases h
    · rw [List.getElem?_set_ne hi] at h
      obtain ⟨h1, h2⟩ := wipeE_some h
      exact ⟨h1, by simp only [List.mem_cons, not_or]; exact ⟨fun e => hi e.symm, h2⟩⟩
section
variable {K : PySem.W.Frag} {σ : L2.St} {H H' : Hp} {ρ : Env} {c : Nat → List Addr} {S : Addr → Prop}
theorem RS.move {B B' P P' : Addr → Prop} (kB : ∀ a o, ¬ B a → H a = some o → H' a = some o) (nB : ∀ a o, ¬ B a → H a = some o → ¬ B' a) (k : ∀ a o, ¬ P a → H a = some o → H' a = some o)
    (n : ∀ a o, ¬ P a → H a = some o → ¬ P' a) {cell : List Addr} (kc : ∀ a ∈ cell, H' a = H a) {v : V} {r : R} (h : RS K H B P cell v r) : RS K H' B' P' cell v r := by
  cases r with
  | val d => exact ⟨h.1, h.2.move k n⟩
  | own d => obtain ⟨a, h1, h2, h3⟩ := h; exact ⟨a, h1, h2, h3.move k n (kc a (by rw [h2]; simp))⟩
  | bor d => exact ⟨h.1, h.2.move kB nB k n⟩
/-- some slots are forgotten, their cells become strangers -/
theorem SR.wipe (h : SR K σ H ρ c S) (is : List Nat) : SR K (L2.wipe σ is) H (wipeE ρ is) (fun i => if i ∈ is then [] else c i) (fun a => S a ∨ ∃ i, i ∈ is ∧ a ∈ c i) where
  len := by rw [wipeE_len, L2.wipe_length, h.len]
  rep := fun i r e => by
    obtain ⟨e1, e2⟩ := wipeE_some e
    obtain ⟨v, h1, h2⟩ := h.rep i r e1
    refine ⟨v, by rw [L2.wipe_out e2]; exact h1, ?_⟩
    simp only [if_neg e2]
    refine h2.move (fun _ _ _ q => q) (fun a o n _ z => n ?_) (fun _ _ _ q => q) (fun a o n _ z => n ?_) (fun _ _ => rfl)
    · obtain ⟨j, hj⟩ := z
      dsimp only at hj
      by_cases hji : j ∈ is
      · rw [if_pos hji] at hj; cases hj
      · rw [if_neg hji] at hj; exact ⟨j, hj⟩
    · rcases z with ⟨j, hj⟩ | z | ⟨j, _, hj⟩
      · dsimp only at hj
        by_cases hji : j ∈ is
        · rw [if_pos hji] at hj; cases hj
        · rw [if_neg hji] at hj; exact .inl ⟨j, hj⟩
      · exact .inr z
      · exact .inl ⟨j, hj⟩
  off := fun i e => by
    by_cases hi : i ∈ is
    · simp only [if_pos hi]
    · simp only [if_neg hi]
      refine h.off i fun r z => ?_
      refine e r ?_
      have : ∀ is : List Nat, i ∉ is → (wipeE ρ is)[i]? = ρ[i]? := by
        intro is
        induction is with
        | nil => intro _; rfl
        | cons j is ih =>
          intro hn
          simp only [List.mem_cons, not_or] at hn
          rw [wipeE, List.getElem?_set_ne (fun z => hn.1 z.symm), ih hn.2]
      rw [this is hi, z]
  dis := fun i j a h1 h2 => by
    by_cases hi : i ∈ is
    · rw [if_pos hi] at h1; cases h1
    · by_cases hj : j ∈ is
      · rw [if_pos hj] at h2; cases h2
      · rw [if_neg hi] at h1; rw [if_neg hj] at h2; exact h.dis i j a h1 h2
  sep := fun i a h1 z => by
    by_cases hi : i ∈ is
    · rw [if_pos hi] at h1; cases h1
    · rw [if_neg hi] at h1
      rcases z with z | ⟨j, hj, z⟩
      · exact h.sep i a h1 z
      · have := h.dis i j a h1 z; subst this; exact hi hj
  trk := fun a z => by
    rcases z with ⟨j, hj⟩ | z | ⟨j, _, hj⟩
    · dsimp only at hj
      by_cases hji : j ∈ is
      · rw [if_pos hji] at hj; cases hj
      · rw [if_neg hji] at hj; exact h.trk a (.inl ⟨j, hj⟩)
    · exact h.trk a (.inr z)
    · exact h.trk a (.inl ⟨j, hj⟩)
theorem own_wipe {is : List Nat} {a : Addr} : Mp.Own (fun i => if i ∈ is then [] else c i) (fun a => S a ∨ ∃ i, i ∈ is ∧ a ∈ c i) a ↔ Mp.Own c S a := by
  constructor
  · rintro (⟨j, hj⟩ | z | ⟨j, _, hj⟩)
    · dsimp only at hj
      by_cases hji : j ∈ is
      · rw [if_pos hji] at hj; cases hj
      · rw [if_neg hji] at hj; exact .inl ⟨j, hj⟩
    · exact .inr z
    · exact .inl ⟨j, hj⟩
  · rintro (⟨j, hj⟩ | z)
    · by_cases hji : j ∈ is
      · exact .inr (.inr ⟨j, hji, hj⟩)
      · exact .inl ⟨j, by dsimp only; rw [if_neg hji]; exact hj⟩
    · exact .inr (.inl z)
/-- a fresh object becomes a stranger -/
theorem SR.withS (h : SR K σ H ρ c S) {p : Addr} (hp : H p = none) (e : Ex H H') (hp' : ∃ o, H' p = some o) : SR K σ H' ρ c (fun a => S a ∨ a = p) where
  len := h.len
  rep := fun i r q => by
    obtain ⟨v, h1, h2⟩ := h.rep i r q
    refine ⟨v, h1, h2.move (fun a o _ q => e a o q) (fun _ _ n _ => n) (fun a o _ q => e a o q) (fun a o n q z => ?_) (fun a ha => ?_)⟩
    · rcases z with z | z | z
      · exact n (.inl z)
      · exact n (.inr z)
      · subst z; rw [hp] at q; cases q
    · obtain ⟨o, z⟩ := h.trk a (.inl ⟨i, ha⟩)
      rw [z, e a o z]
  off := h.off
  dis := h.dis
  sep := fun i a h1 z => by
    rcases z with z | z
    · exact h.sep i a h1 z
    · subst z
      obtain ⟨o, q⟩ := h.trk a (.inl ⟨i, h1⟩)
      rw [hp] at q; cases q
  trk := fun a z => by
    rcases z with z | z | z
    · obtain ⟨o, q⟩ := h.trk a (.inl z); exact ⟨o, e a o q⟩
    · obtain ⟨o, q⟩ := h.trk a (.inr z); exact ⟨o, e a o q⟩
    · subst z; exact hp'
/-- a frozen value is stored where nothing is owned -/
theorem SR.setV (h : SR K σ H ρ c S) {i : Nat} {v : V} {d : D} (hc : c i = []) (r : Rp H (Mp.Own c S) v d) : SR K (σ.set i (some v)) H (ρ.set i (some (.val d))) c S where
  len := by simp [h.len]
  rep := fun j r' e => by
    by_cases hj : i = j
    · subst hj
      by_cases hi : i < ρ.length
      · rw [List.getElem?_set_self hi] at e
        cases e
        exact ⟨v, List.getElem?_set_self (by rw [← h.len]; exact hi), hc, r⟩
      · rw [List.getElem?_eq_none (by simpa using hi)] at e; cases e
    · rw [List.getElem?_set_ne hj] at e
      obtain ⟨w, h1, h2⟩ := h.rep j r' e
      exact ⟨w, by rw [List.getElem?_set_ne hj]; exact h1, h2⟩
  off := fun j e => by
    by_cases hj : i = j
    · subst hj; exact hc
    · exact h.off j fun r z => e r (by rw [List.getElem?_set_ne hj]; exact z)
  dis := h.dis
  sep := h.sep
  trk := h.trk
theorem SR.setAllV : ∀ {is : List Nat} {vs : List V} {ds : List D} {σ : L2.St} {ρ : Env}, SR K σ H ρ c S → (∀ i ∈ is, c i = []) → Rps H (Mp.Own c S) vs ds → SR K (setAll σ is vs) H (setAll ρ is (vals ds)) c S
  | [], vs, ds, σ, ρ, h, _, _ => by simpa [setAll] using h
  | i :: is, [], [], σ, ρ, h, _, _ => by simpa [setAll, vals] using h
  | i :: is, [], _ :: _, _, _, _, _, r => by simp [Rps] at r
  | i :: is, _ :: _, [], _, _, _, _, r => by simp [Rps] at r
  | i :: is, v :: vs, d :: ds, σ, ρ, h, hc, r => by
    simp only [Rps] at r
    simp only [setAll, vals, List.map_cons]
    exact SR.setAllV (h.setV (hc i List.mem_cons_self) r.1) (fun j hj => hc j (List.mem_cons_of_mem _ hj)) r.2
end
theorem wipe_get {σ : L2.St} {j : Nat} : ∀ {is : List Nat}, j ∈ is → j < σ.length → (L2.wipe σ is)[j]? = some none
  | i :: is, h, hl => by
    unfold L2.wipe
    by_cases hi : i = j
    · subst hi; exact List.getElem?_set_self (by rw [L2.wipe_length]; exact hl)
    · rw [List.getElem?_set_ne hi]
      exact wipe_get ((List.mem_cons.mp h).elim (fun z => absurd z.symm hi) id) hl
theorem setAll_out {α : Type} {j : Nat} : ∀ {is : List Nat} {vs : List α} {l : List (Option α)}, j ∉ is → (setAll l is vs)[j]? = l[j]?
  | [], _, _, _ => by simp [setAll]
  | _ :: _, [], _, _ => by simp [setAll]
  | i :: is, v :: vs, l, h => by
    simp only [List.mem_cons, not_or] at h
    simp only [setAll]
    rw [setAll_out h.2, List.getElem?_set_ne (fun z => h.1 z.symm)]
theorem wipe_setAll (σ : L2.St) (is : List Nat) (vs : List V) : L2.wipe (setAll (L2.wipe σ is) is vs) is = L2.wipe σ is := by
  apply List.ext_getElem?
  intro j
  by_cases hj : j ∈ is
  · by_cases hl : j < σ.length
    · rw [wipe_get hj (by rw [setAll_len, L2.wipe_length]; exact hl), wipe_get hj hl]
    · rw [List.getElem?_eq_none (by rw [L2.wipe_length, setAll_len, L2.wipe_length]; omega), List.getElem?_eq_none (by rw [L2.wipe_length]; omega)]
  · rw [L2.wipe_out hj, setAll_out hj]

/-! ### comprehensions -/
def lcGo (b : D → Option Env) (tt : Option (Env → Res R)) (elt : Env → Res R) : List D → List D → Res (List D)
  | [], acc => .ok acc
  | d :: ds, acc => match b d with
    | none => .stuck
    | some ρ1 => match (match tt with | none => some true | some t => (match t ρ1 with | .ok r => asBl r | _ => none)) with
      | some true => (match elt ρ1 with
        | .ok r => (match r.froz with
          | some d' => if acc.length < LIM then lcGo b tt elt ds (acc ++ [d']) else .stuck
          | none => .stuck)
        | _ => .stuck)
      | some false => lcGo b tt elt ds acc
      | none => .stuck
def eLc (t : Tg) (src : Env → Res (List D)) (tt : Option (Env → Res R)) (elt : Env → Res R) (ρ : Env) : Res R := match src ρ with
  | .ok ds => (match lcGo (fun d => bindD t d (wipeE ρ t.slots)) tt elt ds [] with
    | .ok acc => .ok (.own (.lst acc))
    | _ => .stuck)
  | .exc c pl => .exc c pl
  | .stuck => .stuck
def WN : WX := fun _ _ _ _ => False
/-- the reading of a comprehension's test -/
def tTt (C : Cn) : Option (Env → Res R) → TT
  | none => tYes
  | some t => tMt C WN t
section
variable {C : Cn} {W : WX}
theorem lc_read {t : Tg} {src : Env → Res (List D)} {tt : Option (Env → Res R)} {elt : Env → Res R} {σ : L2.St} {H : Hp} {Q : VK} (h : tM C W (eLc t src tt elt) σ H Q) :
    tLc (tI C W false src) (tgT C.K t) (tTt C tt) (tM C WN elt) t.slots σ H Q := by
  obtain ⟨ρ, c, S, sr, h⟩ := h
  refine ⟨ρ, c, S, sr, ?_⟩
  unfold eLc at h
  cases e1 : src ρ with
  | stuck => rw [e1] at h; exact h.elim
  | exc k pl => rw [e1] at h; exact h
  | ok ds =>
    rw [e1] at h
    simp only at h
    split at h
    · next accF eF =>
      intro H1 J x1 hJ D hD
      -- the state within
      let is := t.slots
      let c' : Nat → List Addr := fun i => if i ∈ is then [] else c i
      let S0 : Addr → Prop := fun a => S a ∨ ∃ i, i ∈ is ∧ a ∈ c i
      let S' : Addr → Prop := fun a => S0 a ∨ a = D
      have sr0 : SR C.K (L2.wipe σ is) H1 (wipeE ρ is) c' S0 := (sr.ex x1).wipe is
      have hPP : ∀ a, Mp.Own c' S' a → Mp.Own c S a ∨ H1 a = none := fun a z => by
        rcases z with z | z | z
        · exact .inl (own_wipe.mp (.inl z))
        · exact .inl (own_wipe.mp (.inr z))
        · subst z; exact .inr hD
      have hPQ : ∀ a, Mp.Own c S a → Mp.Own c' S' a := fun a z => (own_wipe.mpr z).imp id .inl
      have hfr : ∀ H2, Ex H1 H2 → Fr (fun a => false = true ∧ Cel c a) H1 H2 := fun H2 e a o _ q => e a o q
      refine ⟨fun i m H2 => m = ds.length - i ∧ i ≤ ds.length ∧ ∃ vs acc, H2 D = some (.lst vs) ∧ Rps H2 (Mp.Own c' S') vs acc ∧ Ex H1 H2 ∧ lcGo (fun d => bindD t d (wipeE ρ is)) tt elt (ds.drop i) acc = .ok accF,
        ⟨ds.length, by simp, Nat.zero_le _, [], [], upd_same, by simp [Rps], Ex.new hD, by simpa using eF⟩, ?_⟩
      rintro i m H2 ⟨rfl, hi, vs, acc, h2, r2, x2, g2⟩
      have srH : SR C.K (L2.wipe σ is) H2 (wipeE ρ is) c' S' := sr0.withS hD x2 ⟨_, h2⟩
      by_cases hlt : i < ds.length
      · refine .inr ⟨hJ.go i H2 (hfr H2 x2) hlt, fun H3 => i + 1 ≤ ds.length ∧ ∃ vs acc, H3 D = some (.lst vs) ∧ Rps H3 (Mp.Own c' S') vs acc ∧ Ex H1 H3 ∧ lcGo (fun d => bindD t d (wipeE ρ is)) tt elt (ds.drop (i + 1)) acc = .ok accF,
          fun H3 ⟨z, w⟩ => ⟨ds.length - (i + 1), by omega, rfl, z, w⟩, fun x H3 y => ?_⟩
        obtain ⟨x3, rx⟩ := hJ.yld i H2 x H3 ds[i] (Mp.Own c' S') (hfr H2 x2) hPP srH.trk (List.getElem?_eq_getElem hlt) y
        rw [List.drop_eq_getElem_cons hlt] at g2
        unfold lcGo at g2
        split at g2
        · cases g2
        · next ρ1 eb =>
          -- the target
          have key : ∀ (k : L2.St → Hp → Prop), (∀ σ2, L2.wipe σ2 is = L2.wipe σ is → SR C.K σ2 H3 ρ1 c' S' → k σ2 H3) → tgT C.K t x (L2.wipe σ is) H3 k := by
            intro k hk
            have srX := srH.ex x3
            cases t with
            | one j =>
              simp only [bindD, Option.some.injEq] at eb
              subst eb
              refine hk _ ?_ (srX.setV (by show (if j ∈ [j] then [] else c j) = []; simp) rx)
              have := wipe_setAll σ [j] [x]
              exact this
            | many js =>
              simp only [bindD] at eb
              split at eb
              · next es ed =>
                split at eb
                · next hl =>
                  cases eb
                  rw [ed] at rx
                  have rx' := rx
                  simp only [Rp] at rx'
                  obtain ⟨a, ws, rfl, _, _, _⟩ := rx'
                  obtain ⟨ws, q1, q2⟩ := tup_same (K := C.K) rx
                  have hlen := q2.length
                  refine ⟨a, ws, rfl, q1, by rw [hlen, hl], gNames_ok js ws _ _ _ (by rw [hlen, hl]) (hk _ (wipe_setAll σ js ws) (srX.setAllV (fun j hj => by show (if j ∈ js then [] else c j) = []; rw [if_pos hj]) q2))⟩
                · cases eb
              · cases eb
          refine key _ fun σ2 hw sr2 => ⟨hw, ?_⟩
          -- the test
          have body : ∀ H4, Ex H3 H4 → (match elt ρ1 with
              | .ok r => (match r.froz with
                | some d' => if acc.length < LIM then lcGo (fun d => bindD t d (wipeE ρ is)) tt elt (ds.drop (i + 1)) (acc ++ [d']) else .stuck
                | none => .stuck)
              | _ => .stuck) = .ok accF → tM C WN elt σ2 H4 fun y H5 => ∃ acc, H5 D = some (.lst acc) ∧ acc.length < sizeLine ∧ (i + 1 ≤ ds.length ∧ ∃ vs acc', (upd H5 D (.lst (acc ++ [y]))) D = some (.lst vs) ∧ Rps (upd H5 D (.lst (acc ++ [y]))) (Mp.Own c' S') vs acc' ∧ Ex H1 (upd H5 D (.lst (acc ++ [y]))) ∧ lcGo (fun d => bindD t d (wipeE ρ is)) tt elt (ds.drop (i + 1)) acc' = .ok accF) := by
            intro H4 x4 g
            refine ⟨ρ1, c', S', sr2.ex x4, ?_⟩
            cases e2 : elt ρ1 with
            | stuck => rw [e2] at g; cases g
            | exc k pl => rw [e2] at g; cases g
            | ok r =>
              rw [e2] at g
              simp only at g
              intro y H5 x5 r5
              split at g
              · next d' ed =>
                split at g
                · next hl =>
                  have x25 : Ex H2 H5 := x3.trans (x4.trans x5)
                  have fy := r5.froz ed
                  have ra := r2.ex x25
                  have hk : ∀ a o, ¬ Mp.Own c' S' a → H5 a = some o → (upd H5 D (.lst (vs ++ [y]))) a = some o := fun a o n q => by
                    rw [upd_ne (fun z => n (.inr (.inr z)))]; exact q
                  refine ⟨vs, x25 _ _ h2, by rw [r2.length]; exact lim_lt hl, hlt, vs ++ [y], acc ++ [d'], upd_same, ?_, ?_, g⟩
                  · exact (ra.append (Rps.one fy)).move hk fun _ _ n _ => n
                  · intro a o q
                    rw [upd_ne (fun z => by subst z; rw [hD] at q; cases q)]
                    exact x25 a o (x2 a o q)
                · cases g
              · cases g
          cases tt with
          | none =>
            simp only at g2
            simp only [tTt, tYes, if_true]
            exact body H3 (Ex.refl _) g2
          | some tt =>
            refine ⟨ρ1, c', S', sr2, ?_⟩
            simp only at g2
            cases e2 : tt ρ1 with
            | stuck => rw [e2] at g2; cases g2
            | exc k pl => rw [e2] at g2; cases g2
            | ok r =>
              rw [e2] at g2
              simp only at g2
              intro v H4 x4 r4
              split at g2
              · next eb => exact ⟨true, asBl_rr r4 eb, iteT (body H4 x4 g2)⟩
              · next eb =>
                refine ⟨false, asBl_rr r4 eb, iteF ⟨hlt, vs, acc, (x3.trans x4) _ _ h2, r2.ex (x3.trans x4), x2.trans (x3.trans x4), g2⟩⟩
              · cases g2
      · have ei : i = ds.length := by omega
        subst ei
        rw [List.drop_length] at g2
        simp only [lcGo, Res.ok.injEq] at g2
        subst g2
        refine .inl ⟨hJ.stop _ H2 (hfr H2 x2) (Nat.le_refl _), h (.ref D) H2 (x1.trans x2) ⟨D, rfl, x1.none hD, fun z => ?_, vs, h2, r2.less fun a z => ?_⟩⟩
        · obtain ⟨o, q⟩ := (sr.ex x1).trk D z
          rw [hD] at q; cases q
        · rcases z with z | z
          · exact hPQ a z
          · exact .inr (.inr z)
    · exact h.elim
end
end Mp

namespace Mp
open PySem L2

/-! ### statements -/
inductive Out where
  | nx (ρ : Env) | rt (r : R) (ρ : Env) | bk (ρ : Env) | ct (ρ : Env) | ex (c : Nat) (pl : List (Str × D)) (ρ : Env) | stuck
/-- how a def's slots and heap go on; io: slots whose cells stay theirs -/
structure Stp (io : List Nat) (σ : L2.St) (ρ : Env) (c : Nat → List Addr) (H : Hp) (σ' : L2.St) (ρ' : Env) (c' : Nat → List Addr) (H' : Hp) : Prop where
  fr : Fr (Cel c) H H'
  tr : ∀ a o, H a = some o → ∃ o', H' a = some o'
  nw : ∀ a, Cel c' a → Cel c a ∨ H a = none
  bo : ∀ (i : Nat) (d : Mp.D), ρ'[i]? = some (some (R.bor d)) → ρ[i]? = some (some (R.bor d)) ∧ σ'[i]? = σ[i]?
  io : ∀ i ∈ io, c' i = c i
/-- the strangers, and the cells that stay the caller's -/
def Abr (io : List Nat) (c : Nat → List Addr) (S : Addr → Prop) (a : Addr) : Prop := S a ∨ ∃ i, i ∈ io ∧ a ∈ c i
theorem Abr.own {io : List Nat} {c : Nat → List Addr} {S : Addr → Prop} {a : Addr} (h : Abr io c S a) : Mp.Own c S a := h.elim .inr fun ⟨i, _, z⟩ => .inl ⟨i, z⟩
/-- what is handed back -/
def RT (K : PySem.W.Frag) (io : List Nat) (c : Nat → List Addr) (S : Addr → Prop) (H H' : Hp) (v : V) : R → Prop
  | .val d => Rp H' (Abr io c S) v d
  | .own d => ∃ a, v = .ref a ∧ (Cel c a ∨ H a = none) ∧ ¬ Abr io c S a ∧ Cell H' (fun b => Abr io c S b ∨ b = a) a d
  | .bor d => Lent K H' (Abr io c S) v d
section
variable {io : List Nat} {σ σ1 σ2 : L2.St} {ρ ρ1 ρ2 : Env} {c c1 c2 : Nat → List Addr} {H H1 H2 : Hp} {S : Addr → Prop} {K : PySem.W.Frag} {v : V} {r : R}
theorem Stp.ex (e : Ex H H1) : Stp io σ ρ c H σ ρ c H1 := ⟨fun a o _ q => e a o q, fun a o q => ⟨o, e a o q⟩, fun _ q => .inl q, fun _ _ q => ⟨q, rfl⟩, fun _ _ => rfl⟩
theorem Stp.refl : Stp io σ ρ c H σ ρ c H := Stp.ex (Ex.refl _)
theorem Stp.trans (a : Stp io σ ρ c H σ1 ρ1 c1 H1) (b : Stp io σ1 ρ1 c1 H1 σ2 ρ2 c2 H2) : Stp io σ ρ c H σ2 ρ2 c2 H2 where
  fr := fun x o n q => b.fr x o (fun z => (a.nw x z).elim n fun z => by rw [z] at q; cases q) (a.fr x o n q)
  tr := fun x o q => let ⟨o1, q1⟩ := a.tr x o q; b.tr x o1 q1
  nw := fun x z => (b.nw x z).elim (fun z => a.nw x z) fun z => .inr (by
    cases q : H x with
    | none => rfl
    | some o => obtain ⟨o1, q1⟩ := a.tr x o q; rw [z] at q1; cases q1)
  bo := fun i d q => let ⟨q1, e1⟩ := b.bo i d q; let ⟨q2, e2⟩ := a.bo i d q1; ⟨q2, e1.trans e2⟩
  io := fun i hi => (b.io i hi).trans (a.io i hi)
theorem Stp.abr (a : Stp io σ ρ c H σ1 ρ1 c1 H1) : Abr io c1 S = Abr io c S := by
  funext x
  apply propext
  constructor
  · rintro (z | ⟨i, hi, z⟩)
    · exact .inl z
    · exact .inr ⟨i, hi, by rw [← a.io i hi]; exact z⟩
  · rintro (z | ⟨i, hi, z⟩)
    · exact .inl z
    · exact .inr ⟨i, hi, by rw [a.io i hi]; exact z⟩
theorem RT.before (a : Stp io σ ρ c H σ1 ρ1 c1 H1) (h : RT K io c1 S H1 H2 v r) : RT K io c S H H2 v r := by
  unfold RT at h ⊢
  rw [a.abr] at h
  cases r with
  | val d => exact h
  | own d =>
    obtain ⟨x, e, z, n, q⟩ := h
    refine ⟨x, e, z.elim (a.nw x) fun z => .inr ?_, n, q⟩
    cases q : H x with
    | none => rfl
    | some o => obtain ⟨o1, q1⟩ := a.tr x o q; rw [z] at q1; cases q1
  | bor d => exact h
theorem RT.of_rr (h : RR K H H1 (Mp.Own c S) v r) : RT K io c S H H1 v r := by
  cases r with
  | val d => exact Rp.less (fun _ z => z.own) h
  | own d => obtain ⟨a, e, n, q, z⟩ := h; exact ⟨a, e, .inr n, fun z => q z.own, z.less fun b w => w.imp Abr.own id⟩
  | bor d => exact Lent.less (fun _ z => z.own) h
end
/-- what is wanted of a statement's outcome -/
def SW (C : Cn) (W : WX) (io : List Nat) (E : Ends) (σ : L2.St) (ρ : Env) (c : Nat → List Addr) (S : Addr → Prop) (H : Hp) : Out → Prop
  | .nx ρ' => ∀ σ' H' c', SR C.K σ' H' ρ' c' S → Stp io σ ρ c H σ' ρ' c' H' → E.nx σ' H'
  | .bk ρ' => ∀ σ' H' c', SR C.K σ' H' ρ' c' S → Stp io σ ρ c H σ' ρ' c' H' → E.bk σ' H'
  | .ct ρ' => ∀ σ' H' c', SR C.K σ' H' ρ' c' S → Stp io σ ρ c H σ' ρ' c' H' → E.ct σ' H'
  | .rt r ρ' => ∀ v σ' H' c', SR C.K σ' H' ρ' c' S → Stp io σ ρ c H σ' ρ' c' H' → RT C.K io c S H H' v r → E.rt v H'
  | .ex k pl ρ' => ∀ σ' H' c' d, SR C.K σ' H' ρ' c' S → Stp io σ ρ c H σ' ρ' c' H' → XP H' (Mp.Own c' S) d pl → W (.ref (C.ca k)) d σ' H'
  | .stuck => False
/-- the reading of a statement (a block) whose meaning is m -/
def tS (C : Cn) (W : WX) (io : List Nat) (m : Env → Out) : TS := fun E σ H => ∃ ρ c S, SR C.K σ H ρ c S ∧ SW C W io E σ ρ c S H (m ρ)
def oSeq (m1 m2 : Env → Out) (ρ : Env) : Out := match m1 ρ with
  | .nx ρ' => m2 ρ'
  | o => o
def oB (x : Res R) (ρ : Env) (f : R → Out) : Out := match x with
  | .ok r => f r
  | .exc k pl => .ex k pl ρ
  | .stuck => .stuck
@[simp] theorem oB_ok (r : R) (ρ : Env) (f : R → Out) : oB (.ok r) ρ f = f r := rfl
section
variable {C : Cn} {W : WX} {io : List Nat} {E E' : Ends} {σ σ1 : L2.St} {ρ ρ1 : Env} {c c1 : Nat → List Addr} {S : Addr → Prop} {H H1 : Hp} {o : Out}
theorem SW.after (s : Stp io σ ρ c H σ1 ρ1 c1 H1) (h : SW C W io E σ ρ c S H o) : SW C W io E σ1 ρ1 c1 S H1 o := by
  cases o with
  | nx ρ' => exact fun σ' H' c' a b => h σ' H' c' a (s.trans b)
  | bk ρ' => exact fun σ' H' c' a b => h σ' H' c' a (s.trans b)
  | ct ρ' => exact fun σ' H' c' a b => h σ' H' c' a (s.trans b)
  | rt r ρ' => exact fun v σ' H' c' a b d => h v σ' H' c' a (s.trans b) (d.before s)
  | ex k pl ρ' => exact fun σ' H' c' d a b x => h σ' H' c' d a (s.trans b) x
  | stuck => exact h
theorem SW.ends (h : SW C W io E σ ρ c S H o) (n : ∀ ρ', o = .nx ρ' → ∀ σ' H' c', SR C.K σ' H' ρ' c' S → Stp io σ ρ c H σ' ρ' c' H' → E.nx σ' H' → E'.nx σ' H') (hr : E.rt = E'.rt)
    (hb : ∀ ρ', o = .bk ρ' → ∀ σ' H' c', SR C.K σ' H' ρ' c' S → Stp io σ ρ c H σ' ρ' c' H' → E.bk σ' H' → E'.bk σ' H') (hc : ∀ ρ', o = .ct ρ' → ∀ σ' H' c', SR C.K σ' H' ρ' c' S → Stp io σ ρ c H σ' ρ' c' H' → E.ct σ' H' → E'.ct σ' H') : SW C W io E' σ ρ c S H o := by
  cases o with
  | nx ρ' => exact fun σ' H' c' a b => n ρ' rfl σ' H' c' a b (h σ' H' c' a b)
  | bk ρ' => exact fun σ' H' c' a b => hb ρ' rfl σ' H' c' a b (h σ' H' c' a b)
  | ct ρ' => exact fun σ' H' c' a b => hc ρ' rfl σ' H' c' a b (h σ' H' c' a b)
  | rt r ρ' => exact fun v σ' H' c' a b d => hr ▸ h v σ' H' c' a b d
  | ex k pl ρ' => exact h
  | stuck => exact h
/-- an expression's value goes on -/
theorem SW.rw {x : Res R} {f : R → Out} (sr : SR C.K σ H ρ c S) (h : SW C W io E σ ρ c S H (oB x ρ f)) : RW C W (Mp.Own c S) σ H x (fun v H1 => ∃ r, Ex H H1 ∧ RR C.K H H1 (Mp.Own c S) v r ∧ SW C W io E σ ρ c S H1 (f r)) := by
  cases x with
  | ok r => exact fun v H1 e q => ⟨r, e, q, SW.after (Stp.ex e) h⟩
  | exc k pl => exact fun H1 d e q => h σ H1 c d (sr.ex e) (Stp.ex e) q
  | stuck => exact h
theorem SW.nx {ρ' : Env} {σ' : L2.St} {H' : Hp} {c' : Nat → List Addr} (h : SW C W io E σ ρ c S H (.nx ρ')) (a : SR C.K σ' H' ρ' c' S) (b : Stp io σ ρ c H σ' ρ' c' H') : E.nx σ' H' := h σ' H' c' a b
end
section
variable {X : Cx} {C : Cn} {W : WX} {io : List Nat} {st : Stmt} {rest : List Stmt} {m1 m2 : Env → Out} {e : Expr} {m : Env → Res R} {pos : Pos}
theorem pss_nilM : PSs X [] (tS C W io .nx) := PSs.weak pss_nil fun E σ H ⟨ρ, c, S, sr, h⟩ => h.nx sr Stp.refl
theorem pss_consM (h1 : PS X st (tS C W io m1)) (h2 : PSs X rest (tS C W io m2)) : PSs X (st :: rest) (tS C W io (oSeq m1 m2)) :=
  PSs.weak (pss_cons h1 h2) fun E σ H ⟨ρ, c, S, sr, h⟩ => by
    refine ⟨ρ, c, S, sr, ?_⟩
    unfold oSeq at h
    cases e1 : m1 ρ with
    | nx ρ' =>
      rw [e1] at h
      exact fun σ' H' c' a b => ⟨ρ', c', S, a, SW.after b h⟩
    | bk ρ' => rw [e1] at h; exact h
    | ct ρ' => rw [e1] at h; exact h
    | rt r ρ' => rw [e1] at h; exact h
    | ex k pl ρ' => rw [e1] at h; exact h
    | stuck => rw [e1] at h; exact h
theorem ps_passM : PS X (.Pass pos) (tS C W io .nx) := PS.weak ps_pass fun E σ H ⟨ρ, c, S, sr, h⟩ => h.nx sr Stp.refl
theorem ps_docM {x j pos'} : PS X (.Expr (.Constant (.str x) j pos) pos') (tS C W io .nx) := PS.weak ps_doc fun E σ H ⟨ρ, c, S, sr, h⟩ => h.nx sr Stp.refl
theorem ps_breakM : PS X (.Break pos) (tS C W io .bk) := PS.weak ps_break fun E σ H ⟨ρ, c, S, sr, h⟩ => h σ H c sr Stp.refl
theorem ps_contM : PS X (.Continue pos) (tS C W io .ct) := PS.weak ps_continue fun E σ H ⟨ρ, c, S, sr, h⟩ => h σ H c sr Stp.refl
theorem ps_stuckM : PS X st (tS C W io fun _ => .stuck) := ⟨fun _ _ _ _ _ _ ⟨_, _, _, _, h⟩ => h.elim⟩
/-- an expression as a statement -/
def sDrop (m : Env → Res R) (ρ : Env) : Out := oB (m ρ) ρ fun _ => .nx ρ
def noComp : Expr → Bool
  | .ListComp .. | .SetComp .. | .DictComp .. => false
  | _ => true
theorem swaps_no {e : Expr} {t : Option Expr} {l : Nat} {env : PySem.Env} (h : noComp e = true) : swapsWith e t l env = pure false := by
  cases e <;> first | rfl | simp [noComp] at h
theorem ps_dropM (he : PE X e (tM C W m)) (hc : noComp e = true) : PS X (.Expr e pos) (tS C W io (sDrop m)) :=
  PS.weak (ps_expr he (swaps_no hc)) fun E σ H ⟨ρ, c, S, sr, h⟩ => ⟨ρ, c, S, sr, (SW.rw sr h).imp fun v H1 ⟨r, x1, r1, q⟩ => q.nx (sr.ex x1) Stp.refl⟩
def sRet (m : Env → Res R) (ρ : Env) : Out := oB (m ρ) ρ fun r => .rt r ρ
theorem ps_retM (he : PE X e (tM C W m)) : PS X (.Return (some e) pos) (tS C W io (sRet m)) :=
  PS.weak (ps_ret he) fun E σ H ⟨ρ, c, S, sr, h⟩ => ⟨ρ, c, S, sr, by
    unfold sRet oB at h
    cases e1 : m ρ with
    | stuck => rw [e1] at h; exact h.elim
    | exc k pl => rw [e1] at h; exact fun H1 d e q => h σ H1 c d (sr.ex e) (Stp.ex e) q
    | ok r => rw [e1] at h; exact fun v H1 x r1 => h v σ H1 c (sr.ex x) (Stp.ex x) (RT.of_rr r1)⟩
def sRetN (ρ : Env) : Out := .rt (.val .non) ρ
theorem ps_retNM : PS X (.Return none pos) (tS C W io sRetN) := PS.weak ps_retN fun E σ H ⟨ρ, c, S, sr, h⟩ => h .non σ H c sr Stp.refl (by simp [RT, Rp])
def sIf (mc : Env → Res R) (a b : Env → Out) (ρ : Env) : Out := oB (mc ρ) ρ fun r => match asBl r with
  | some true => a ρ
  | some false => b ρ
  | none => .stuck
theorem ps_ifM {cnd : Expr} {sa sb : List Stmt} {mc : Env → Res R} (hc : PT X cnd (tMt C W mc)) (ha : PSs X sa (tS C W io m1)) (hb : PSs X sb (tS C W io m2)) : PS X (.If cnd sa sb pos) (tS C W io (sIf mc m1 m2)) :=
  PS.weak (ps_if hc ha hb) fun E σ H ⟨ρ, c, S, sr, h⟩ => ⟨ρ, c, S, sr, (SW.rw sr h).imp fun v H1 ⟨r, x1, r1, q⟩ => by
    split at q
    · next e1 => exact ⟨true, asBl_rr r1 e1, iteT ⟨ρ, c, S, sr.ex x1, q⟩⟩
    · next e1 => exact ⟨false, asBl_rr r1 e1, iteF ⟨ρ, c, S, sr.ex x1, q⟩⟩
    · exact q.elim⟩
end

/-! ### storing -/
section
variable {K : PySem.W.Frag} {io : List Nat} {σ : L2.St} {H H' : Hp} {ρ : Env} {c : Nat → List Addr} {S : Addr → Prop}
def cut (c : Nat → List Addr) (i : Nat) : Nat → List Addr := fun j => if j = i then [] else c j
theorem cut_cel {i : Nat} {a : Addr} (h : Cel (cut c i) a) : Cel c a := by
  obtain ⟨j, hj⟩ := h
  unfold cut at hj
  split at hj
  · cases hj
  · exact ⟨j, hj⟩
theorem cut_own {i : Nat} {a : Addr} (h : Mp.Own (cut c i) S a) : Mp.Own c S a := h.imp (fun z => cut_cel z) id
/-- a slot is emptied: what it owned is nobody's -/
theorem SR.drop (h : SR K σ H ρ c S) (i : Nat) : SR K (σ.set i none) H (ρ.set i none) (cut c i) S where
  len := by simp [h.len]
  rep := fun j r e => by
    by_cases hj : i = j
    · subst hj
      by_cases hi : i < ρ.length
      · rw [List.getElem?_set_self hi] at e; cases e
      · rw [List.getElem?_eq_none (by simpa using hi)] at e; cases e
    · rw [List.getElem?_set_ne hj] at e
      obtain ⟨v, h1, h2⟩ := h.rep j r e
      refine ⟨v, by rw [List.getElem?_set_ne hj]; exact h1, ?_⟩
      rw [show cut c i j = c j by unfold cut; rw [if_neg (fun z => hj z.symm)]]
      exact h2.move (fun _ _ _ q => q) (fun _ _ n _ z => n (cut_cel z)) (fun _ _ _ q => q) (fun _ _ n _ z => n (cut_own z)) fun _ _ => rfl
  off := fun j e => by
    unfold cut
    split
    · rfl
    · next hj => exact h.off j fun r z => e r (by rw [List.getElem?_set_ne (fun w => hj w.symm)]; exact z)
  dis := fun j k a h1 h2 => by
    unfold cut at h1 h2
    split at h1
    · cases h1
    · split at h2
      · cases h2
      · exact h.dis j k a h1 h2
  sep := fun j a h1 => by
    unfold cut at h1
    split at h1
    · cases h1
    · exact h.sep j a h1
  trk := fun a z => h.trk a (cut_own z)
/-- .. and forgotten in the slots alone -/
theorem SR.dropE (h : SR K σ H ρ c S) (i : Nat) : SR K σ H (ρ.set i none) (cut c i) S :=
  ⟨by simp [h.len], fun j r e => by
    have hj : i ≠ j := fun z => by
      subst z
      by_cases hi : i < ρ.length
      · rw [List.getElem?_set_self hi] at e; cases e
      · rw [List.getElem?_eq_none (by simpa using hi)] at e; cases e
    obtain ⟨v, h1, h2⟩ := (h.drop i).rep j r e
    exact ⟨v, by rwa [List.getElem?_set_ne hj] at h1, h2⟩, (h.drop i).off, (h.drop i).dis, (h.drop i).sep, (h.drop i).trk⟩
theorem SR.setV' (h : SR K σ H ρ c S) {i : Nat} {v : V} {d : D} (r : Rp H (Mp.Own c S) v d) : SR K (σ.set i (some v)) H (ρ.set i (some (.val d))) (cut c i) S := by
  have := (h.drop i).setV (i := i) (v := v) (d := d) (by unfold cut; rw [if_pos rfl]) (r.less fun _ z => cut_own z)
  rwa [List.set_set, List.set_set] at this
def put1 (c : Nat → List Addr) (i : Nat) (a : Addr) : Nat → List Addr := fun j => if j = i then [a] else c j
theorem put1_cel {i : Nat} {a b : Addr} (h : Cel (put1 c i a) b) : Cel (cut c i) b ∨ b = a := by
  obtain ⟨j, hj⟩ := h
  unfold put1 at hj
  split at hj
  · exact .inr (by simpa using hj)
  · next n => exact .inl ⟨j, by unfold cut; rw [if_neg n]; exact hj⟩
theorem put1_own {i : Nat} {a b : Addr} (h : Mp.Own (put1 c i a) S b) : Mp.Own (cut c i) S b ∨ b = a := h.elim (fun z => (put1_cel z).imp .inl id) fun z => .inl (.inr z)
/-- a thing that nobody owns goes into a slot -/
theorem SR.setO (h : SR K σ H ρ c S) {i : Nat} {a : Addr} {d : D} (na : ¬ Mp.Own c S a) (hi : i < ρ.length) (hn : ∀ j r, j ≠ i → ρ[j]? = some (some r) → ∀ v, σ[j]? = some (some v) → RS K H (Cel c) (Mp.Own c S) (c j) v r → RS K H (Cel (put1 c i a)) (Mp.Own (put1 c i a) S) (c j) v r)
    (r : Cell H (Mp.Own (put1 c i a) S) a d) : SR K (σ.set i (some (.ref a))) H (ρ.set i (some (.own d))) (put1 c i a) S where
  len := by simp [h.len]
  rep := fun j r' e => by
    by_cases hj : i = j
    · subst hj
      rw [List.getElem?_set_self hi] at e
      cases e
      exact ⟨.ref a, List.getElem?_set_self (by rw [← h.len]; exact hi), a, rfl, by unfold put1; rw [if_pos rfl], r⟩
    · rw [List.getElem?_set_ne hj] at e
      obtain ⟨w, h1, h2⟩ := h.rep j r' e
      refine ⟨w, by rw [List.getElem?_set_ne hj]; exact h1, ?_⟩
      rw [show put1 c i a j = c j by unfold put1; rw [if_neg (fun z => hj z.symm)]]
      exact hn j r' (fun z => hj z.symm) e w h1 h2
  off := fun j e => by
    unfold put1
    split
    · next hj => subst hj; exact absurd (List.getElem?_set_self hi) (e _)
    · next hj => exact h.off j fun r z => e r (by rw [List.getElem?_set_ne (fun w => hj w.symm)]; exact z)
  dis := fun j k b h1 h2 => by
    unfold put1 at h1 h2
    split at h1
    · next ej =>
      have eb : b = a := by simpa using h1
      subst eb
      split at h2
      · next ek => rw [ej, ek]
      · exact absurd (.inl ⟨k, h2⟩) na
    · split at h2
      · have eb : b = a := by simpa using h2
        subst eb
        exact absurd (.inl ⟨j, h1⟩) na
      · exact h.dis j k b h1 h2
  sep := fun j b h1 z => by
    unfold put1 at h1
    split at h1
    · have eb : b = a := by simpa using h1
      subst eb
      exact na (.inr z)
    · exact h.sep j b h1 z
  trk := fun b z => by
    rcases put1_own z with z | z
    · exact h.trk b (cut_own z)
    · subst z; exact r.there
end
theorem set_none {ρ : Env} {i j : Nat} {d : D} (h : (ρ.set i none)[j]? = some (some (R.bor d))) : ρ[j]? = some (some (R.bor d)) ∧ i ≠ j := by
  have hj : i ≠ j := fun z => by
    subst z
    by_cases hi : i < ρ.length
    · rw [List.getElem?_set_self hi] at h; cases h
    · rw [List.getElem?_eq_none (by simpa using hi)] at h; cases h
  exact ⟨by rwa [List.getElem?_set_ne hj] at h, hj⟩
theorem set_bor {ρ : Env} {i j : Nat} {r : R} {d : D} (nb : ∀ d, r ≠ .bor d) (h : (ρ.set i (some r))[j]? = some (some (R.bor d))) : ρ[j]? = some (some (R.bor d)) ∧ i ≠ j := by
  have hj : i ≠ j := fun z => by
    subst z
    by_cases hi : i < ρ.length
    · rw [List.getElem?_set_self hi] at h; simp only [Option.some.injEq] at h; exact nb _ h
    · rw [List.getElem?_eq_none (by simpa using hi)] at h; cases h
  exact ⟨by rwa [List.getElem?_set_ne hj] at h, hj⟩
section
variable {K : PySem.W.Frag} {io : List Nat} {σ : L2.St} {H H' : Hp} {ρ : Env} {c : Nat → List Addr} {S : Addr → Prop}
theorem Stp.setV {i : Nat} {v : V} {d : D} (hio : i ∉ io) : Stp io σ ρ c H (σ.set i (some v)) (ρ.set i (some (.val d))) (cut c i) H where
  fr := fun a o _ q => q
  tr := fun a o q => ⟨o, q⟩
  nw := fun a q => .inl (cut_cel q)
  bo := fun j d q => by
    obtain ⟨q1, q2⟩ := set_bor (fun _ z => by cases z) q
    exact ⟨q1, List.getElem?_set_ne q2⟩
  io := fun j hj => by unfold cut; rw [if_neg]; intro z; subst z; exact hio hj
/-- the new owner -/
theorem SR.putO (h : SR K σ H ρ c S) {i : Nat} {a : Addr} {d : D} {H0 : Hp} (x : Ex H0 H) (h0 : SR K σ H0 ρ c S) (hi : i < ρ.length) (n0 : H0 a = none) (na : ¬ Mp.Own c S a) (r : Cell H (fun b => Mp.Own c S b ∨ b = a) a d) :
    SR K (σ.set i (some (.ref a))) H (ρ.set i (some (.own d))) (put1 c i a) S := by
  refine h.setO na hi (fun j r' hj e w hw _ => ?_) (r.less fun b z => (put1_own z).imp cut_own id)
  obtain ⟨w', h1, h2⟩ := h0.rep j r' e
  rw [hw] at h1
  cases h1
  refine h2.move (fun a o _ q => x a o q) (fun b o n q z => ?_) (fun a o _ q => x a o q) (fun b o n q z => ?_) (fun b hb => ?_)
  · rcases put1_cel z with z | z
    · exact n (cut_cel z)
    · subst z; rw [n0] at q; cases q
  · rcases put1_own z with z | z
    · exact n (cut_own z)
    · subst z; rw [n0] at q; cases q
  · obtain ⟨o, q⟩ := h0.trk b (.inl ⟨j, hb⟩)
    rw [q, x b o q]
theorem Stp.putO {i : Nat} {a : Addr} {d : D} {H0 : Hp} (x : Ex H0 H) (n0 : H0 a = none) (hio : i ∉ io) : Stp io σ ρ c H0 (σ.set i (some (.ref a))) (ρ.set i (some (.own d))) (put1 c i a) H where
  fr := fun a o _ q => x a o q
  tr := fun a o q => ⟨o, x a o q⟩
  nw := fun b q => (put1_cel q).elim (fun z => .inl (cut_cel z)) fun z => .inr (z ▸ n0)
  bo := fun j d q => by
    obtain ⟨q1, q2⟩ := set_bor (fun _ z => by cases z) q
    exact ⟨q1, List.getElem?_set_ne q2⟩
  io := fun j hj => by unfold put1; rw [if_neg]; intro z; subst z; exact hio hj
end
/-- a name's new value; own: it may be changed -/
def setR (own : Bool) (i : Nat) (r : R) (ρ : Env) : Out := match own, r with
  | true, .own d => if i < ρ.length then .nx (ρ.set i (some (.own d))) else .stuck
  | true, _ => .stuck
  | false, r => match r.froz with
    | some d => .nx (ρ.set i (some (.val d)))
    | none => .stuck
def sSet (own : Bool) (i : Nat) (m : Env → Res R) (ρ : Env) : Out := oB (m ρ) ρ fun r => setR own i r ρ
section
variable {X : Cx} {C : Cn} {W : WX} {io : List Nat} {E : Ends} {σ : L2.St} {ρ : Env} {c : Nat → List Addr} {S : Addr → Prop} {H H1 : Hp} {i : Nat} {own : Bool} {r : R} {v : V}
theorem set_ok (sr : SR C.K σ H ρ c S) (hio : i ∉ io) (x1 : Ex H H1) (r1 : RR C.K H H1 (Mp.Own c S) v r) (q : SW C W io E σ ρ c S H1 (setR own i r ρ)) (q0 : SW C W io E σ ρ c S H (setR own i r ρ)) : E.nx (σ.set i (some v)) H1 := by
  unfold setR at q q0
  split at q
  · next d =>
    split at q
    · next hi =>
      obtain ⟨a, rfl, n0, na, rc⟩ := r1
      dsimp only at q0
      rw [if_pos hi] at q0
      exact q0.nx ((sr.ex x1).putO x1 sr hi n0 na rc) (Stp.putO x1 n0 hio)
    · exact q.elim
  · exact q.elim
  · next r' =>
    split at q
    · next d e => exact q.nx ((sr.ex x1).setV' (r1.froz e)) (Stp.setV hio)
    · exact q.elim
theorem SW.rw0 {x : Res R} {f : R → Out} (sr : SR C.K σ H ρ c S) (h : SW C W io E σ ρ c S H (oB x ρ f)) : RW C W (Mp.Own c S) σ H x (fun v H1 => ∃ r, Ex H H1 ∧ RR C.K H H1 (Mp.Own c S) v r ∧ SW C W io E σ ρ c S H1 (f r) ∧ SW C W io E σ ρ c S H (f r)) := by
  cases x with
  | ok r => exact fun v H1 e q => ⟨r, e, q, SW.after (Stp.ex e) h, h⟩
  | exc k pl => exact fun H1 d e q => h σ H1 c d (sr.ex e) (Stp.ex e) q
  | stuck => exact h
theorem tAsg_set {te : TE} {m : Env → Res R} (hw : ∀ σ H Q, tM C W m σ H Q → te σ H Q) (hio : i ∉ io) : ∀ E σ H, tS C W io (sSet own i m) E σ H → tAsg te (gName i) E σ H := fun E σ H ⟨ρ, c, S, sr, h⟩ =>
  hw σ H _ ⟨ρ, c, S, sr, (SW.rw0 sr h).imp fun v H1 ⟨r, x1, r1, q, q0⟩ => set_ok sr hio x1 r1 q q0⟩
theorem ps_setM {x : Str} {e : Expr} {m : Env → Res R} {px pos : Pos} (hN : X.N.Nodup) (hi : X.N[i]? = some x) (hx : Loc X.env.scope x) (hf : X.fn x = true ∨ X.env.scope.names.lookup x = some .local) (he : PE X e (tM C W m)) (hc : noComp e = true) (hio : i ∉ io) :
    PS X (.Assign [.Name x px] e pos) (tS C W io (sSet own i m)) :=
  PS.weak (ps_set hN hi hx he (swaps_no hc) hf) (tAsg_set (fun _ _ _ h => h) hio)
end
end Mp

namespace Mp
open PySem L2

/-! ### targets of statements -/
section
variable {K : PySem.W.Frag} {io : List Nat} {σ : L2.St} {H H' : Hp} {ρ ρ1 : Env} {c : Nat → List Addr} {S : Addr → Prop}
theorem setAll_ok (io : List Nat) : ∀ {is : List Nat} {vs : List V} {ds : List D} {σ : L2.St} {ρ : Env} {c : Nat → List Addr}, SR K σ H ρ c S → (∀ i ∈ is, i ∉ io) → Rps H (Mp.Own c S) vs ds →
    ∃ c1, SR K (setAll σ is vs) H (setAll ρ is (vals ds)) c1 S ∧ Stp io σ ρ c H (setAll σ is vs) (setAll ρ is (vals ds)) c1 H
  | [], vs, ds, σ, ρ, c, h, _, _ => ⟨c, by simpa [setAll] using h, by simpa [setAll] using Stp.refl⟩
  | i :: is, [], [], σ, ρ, c, h, _, _ => ⟨c, by simpa [setAll, vals] using h, by simpa [setAll, vals] using Stp.refl⟩
  | i :: is, [], _ :: _, _, _, _, _, _, r => by simp [Rps] at r
  | i :: is, _ :: _, [], _, _, _, _, _, r => by simp [Rps] at r
  | i :: is, v :: vs, d :: ds, σ, ρ, c, h, hio, r => by
    simp only [Rps] at r
    simp only [setAll, vals, List.map_cons]
    obtain ⟨c1, a, b⟩ := setAll_ok io (is := is) (h.setV' (i := i) r.1) (fun j hj => hio j (List.mem_cons_of_mem _ hj)) (r.2.less fun _ z => cut_own z)
    exact ⟨c1, a, (Stp.setV (hio i List.mem_cons_self)).trans b⟩
theorem bind_ok {t : Tg} {x : V} {d : D} {k : L2.St → Hp → Prop} (h : SR K σ H ρ c S) (r : Rp H (Mp.Own c S) x d) (e : bindD t d ρ = some ρ1) (hio : ∀ i ∈ t.slots, i ∉ io) (q : ∀ σ1 c1, SR K σ1 H ρ1 c1 S → Stp io σ ρ c H σ1 ρ1 c1 H → k σ1 H) : tgT K t x σ H k := by
  cases t with
  | one i =>
    simp only [bindD, Option.some.injEq] at e
    subst e
    exact q _ _ (h.setV' r) (Stp.setV (hio i (by simp [Tg.slots])))
  | many is =>
    simp only [bindD] at e
    split at e
    · next ds ed =>
      split at e
      · next hl =>
        cases e
        have rx' := r
        simp only [Rp] at rx'
        obtain ⟨a, ws, rfl, _, _, _⟩ := rx'
        obtain ⟨ws, q1, q2⟩ := tup_same (K := K) r
        have hlen := q2.length
        obtain ⟨c1, s1, s2⟩ := setAll_ok io (is := is) h (fun i hi => hio i hi) q2
        exact ⟨a, ws, rfl, q1, by rw [hlen, hl], gNames_ok is ws _ _ _ (by rw [hlen, hl]) (q _ c1 s1 s2)⟩
      · cases e
    · cases e
end
/-- a target as it stands in the text -/
def stoOk (sc : Scope) (fn : Str → Bool) (x : Str) : Bool :=
  (match sc.names.lookup x with | some .local => true | some .cell => fn x | _ => false)
def chkTg (N : List Str) (sc : Scope) (fn : Str → Bool) : Expr → Tg → Bool
  | .Name x _, .one i => decide (N[i]? = some x) && stoOk sc fn x
  | .Tuple es _ _, .many is => (match tgNames N es with
    | some l => decide (l.map (·.2) = is) && l.all fun p => stoOk sc fn p.1
    | none => false)
  | _, _ => false
theorem stoOk_loc {sc : Scope} {fn : Str → Bool} {x : Str} (h : stoOk sc fn x = true) : L2.Loc sc x ∧ (fn x = true ∨ sc.names.lookup x = some .local) := by
  unfold stoOk at h
  split at h
  · next e => exact ⟨.inl e, .inr e⟩
  · next e => exact ⟨.inr e, .inl h⟩
  · cases h
theorem pg_of {X : Cx} (hN : X.N.Nodup) (hc : X.calm = true) {e : Expr} {t : Tg} (h : chkTg X.N X.env.scope X.fn e t = true) : PG X e (tgT X.K t) := by
  unfold chkTg at h
  split at h
  · next x p i =>
    simp only [Bool.and_eq_true, decide_eq_true_eq] at h
    obtain ⟨h1, h2⟩ := stoOk_loc h.2
    exact pg_name hN h.1 h1 h2
  · next es k p is =>
    split at h
    · next l e1 =>
      simp only [Bool.and_eq_true, decide_eq_true_eq, List.all_eq_true] at h
      obtain ⟨rfl, h2⟩ := h
      obtain ⟨q1, q2⟩ := tgNames_each (env := X.env) e1
      have := pg_tup (pos := p) (k := k) hc (pgs_of hN e1 fun p hp => stoOk_loc (h2 p hp)) rfl q2
      rw [q1] at this
      show PG X _ (gTup X.K (l.map (·.2)).length _)
      rw [List.length_map]
      exact this
    · cases h
  · cases h

/-! ### loops -/
def forGo (t : Tg) (body : Env → Out) : List D → Env → Out
  | [], ρ => .nx ρ
  | d :: ds, ρ => match bindD t d ρ with
    | none => .stuck
    | some ρ1 => match body ρ1 with
      | .nx ρ2 => forGo t body ds ρ2
      | .ct ρ2 => forGo t body ds ρ2
      | .bk ρ2 => .nx ρ2
      | o => o
def sFor (t : Tg) (src : Env → Res (List D)) (body : Env → Out) (ρ : Env) : Out := match src ρ with
  | .ok ds => forGo t body ds ρ
  | .exc k pl => .ex k pl ρ
  | .stuck => .stuck
def plainIter : Expr → Bool
  | .Set .. => false
  | _ => true
theorem folded_of {e : Expr} {env : PySem.Env} (h : plainIter e = true) : ∀ x, foldedSetIterable e env x = pure x := by
  intro x
  cases e <;> first | rfl | simp [plainIter] at h
def whGo (mc : Env → Res R) (body : Env → Out) : Nat → Env → Out
  | 0, _ => .stuck
  | n + 1, ρ => oB (mc ρ) ρ fun r => match asBl r with
    | some true => (match body ρ with
      | .nx ρ2 => whGo mc body n ρ2
      | .ct ρ2 => whGo mc body n ρ2
      | .bk ρ2 => .nx ρ2
      | o => o)
    | some false => .nx ρ
    | none => .stuck
section
variable {X : Cx} {C : Cn} {W : WX} {io : List Nat} {tg iter : Expr} {t : Tg} {src : Env → Res (List D)} {mb : Env → Out} {sb : List Stmt} {pos : Pos}
theorem for_core {E : Ends} {σ : L2.St} {H1 : Hp} {ρ : Mp.Env} {c : Nat → List Addr} {S : Addr → Prop} {J : It} {ds : List D} (sr : SR C.K σ H1 ρ c S) (hJ : Src H1 (fun a => true = true ∧ Cel c a) (Mp.Own c S) J ds) (hio : ∀ i ∈ t.slots, i ∉ io) (h : SW C W io E σ ρ c S H1 (forGo t mb ds ρ)) :
    ∃ Wf : Nat → Nat → L2.St → Hp → Prop, (∃ m, Wf 0 m σ H1) ∧ ∀ i m σ H, Wf i m σ H → (J.stop i H ∧ E.nx σ H) ∨ (J.go i H ∧ ∃ N : L2.St → Hp → Prop, (∀ σ' H', N σ' H' → ∃ m', m' < m ∧ Wf (i + 1) m' σ' H') ∧
      ∀ x H', J.yld i H x H' → tgT C.K t x σ H' fun σ2 H2 => tS C W io mb { E with nx := N, ct := N, bk := E.nx } σ2 H2) := by
  refine ⟨fun i m σ' H' => m = ds.length - i ∧ i ≤ ds.length ∧ ∃ ρ' c', SR C.K σ' H' ρ' c' S ∧ Stp io σ ρ c H1 σ' ρ' c' H' ∧ SW C W io E σ' ρ' c' S H' (forGo t mb (ds.drop i) ρ'),
    ⟨ds.length, by simp, Nat.zero_le _, ρ, c, sr, Stp.refl, h⟩, ?_⟩
  rintro i m σ' H' ⟨rfl, hi, ρ', c', sr', st', g⟩
  have fr' : Fr (fun a => true = true ∧ Cel c a) H1 H' := fun a o n q => st'.fr a o (fun z => n ⟨rfl, z⟩) q
  by_cases hlt : i < ds.length
  · refine .inr ⟨hJ.go i H' fr' hlt, fun σ3 H3 => i + 1 ≤ ds.length ∧ ∃ ρ' c', SR C.K σ3 H3 ρ' c' S ∧ Stp io σ ρ c H1 σ3 ρ' c' H3 ∧ SW C W io E σ3 ρ' c' S H3 (forGo t mb (ds.drop (i + 1)) ρ'),
      fun σ3 H3 ⟨z, w⟩ => ⟨ds.length - (i + 1), by omega, rfl, z, w⟩, fun x H'' y => ?_⟩
    have hPP : ∀ a, Mp.Own c' S a → Mp.Own c S a ∨ H1 a = none := fun a z => z.elim (fun z => (st'.nw a z).imp .inl id) fun z => .inl (.inr z)
    obtain ⟨x3, rx⟩ := hJ.yld i H' x H'' ds[i] (Mp.Own c' S) fr' hPP sr'.trk (List.getElem?_eq_getElem hlt) y
    rw [List.drop_eq_getElem_cons hlt] at g
    unfold forGo at g
    split at g
    · exact g.elim
    · next ρ1 eb =>
      refine bind_ok (sr'.ex x3) rx eb hio fun σ1 c1 sr1 st1 => ⟨ρ1, c1, S, sr1, ?_⟩
      have stA : Stp io σ' ρ' c' H' σ1 ρ1 c1 H'' := (Stp.ex x3).trans st1
      have g1 := SW.after stA g
      cases e2 : mb ρ1 with
      | stuck => rw [e2] at g1; exact g1.elim
      | nx ρ2 =>
        rw [e2] at g1
        exact fun σ3 H3 c3 a b => ⟨hlt, ρ2, c3, a, (st'.trans stA).trans b, SW.after b g1⟩
      | ct ρ2 =>
        rw [e2] at g1
        exact fun σ3 H3 c3 a b => ⟨hlt, ρ2, c3, a, (st'.trans stA).trans b, SW.after b g1⟩
      | bk ρ2 => rw [e2] at g1; exact g1
      | rt r ρ2 => rw [e2] at g1; exact g1
      | ex k pl ρ2 => rw [e2] at g1; exact g1
  · have ei : i = ds.length := by omega
    subst ei
    rw [List.drop_length] at g
    exact .inl ⟨hJ.stop _ H' fr' (Nat.le_refl _), g.nx sr' Stp.refl⟩
theorem ps_forM (hK : X.K = C.K) (hp : PassesOwn (model X.prog X.w) X.A X.env X.xe) (hc : X.calm = true) (hi : PI X tg iter (tI C W true src)) (hg : PG X tg (tgT X.K t)) (hb : PSs X sb (tS C W io mb)) (hs : plainIter iter = true) (hio : ∀ i ∈ t.slots, i ∉ io) :
    PS X (.For tg iter sb [] pos) (tS C W io (sFor t src mb)) :=
  PS.weak (ps_for hp hc hi hg hb (folded_of hs)) fun E σ H ⟨ρ, c, S, sr, h⟩ => by
    refine ⟨ρ, c, S, sr, ?_⟩
    unfold sFor at h
    cases e1 : src ρ with
    | stuck => rw [e1] at h; exact h.elim
    | exc k pl => rw [e1] at h; exact fun H1 d x q => h σ H1 c d (sr.ex x) (Stp.ex x) q
    | ok ds =>
      rw [e1] at h
      intro H1 J x1 hJ
      rw [hK]
      exact for_core (sr.ex x1) hJ hio (SW.after (Stp.ex x1) h)
theorem ps_whileM {cnd : Expr} {mc : Env → Res R} {n : Nat} (hp : PassesOwn (model X.prog X.w) X.A X.env X.xe) (hc : PT X cnd (tMt C W mc)) (hb : PSs X sb (tS C W io mb)) : PS X (.While cnd sb [] pos) (tS C W io (whGo mc mb n)) :=
  PS.weak (ps_while hp hc hb) fun E σ H ⟨ρ, c, S, sr, h⟩ => by
    refine ⟨fun m σ' H' => ∃ ρ' c', SR C.K σ' H' ρ' c' S ∧ SW C W io E σ' ρ' c' S H' (whGo mc mb m ρ'), ⟨n, ρ, c, sr, h⟩, ?_⟩
    rintro m σ' H' ⟨ρ', c', sr', g⟩
    cases m with
    | zero => exact g.elim
    | succ m =>
      refine ⟨ρ', c', S, sr', (SW.rw sr' g).imp fun v H1 ⟨r, x1, r1, q⟩ => ?_⟩
      split at q
      · next e1 =>
        refine ⟨true, asBl_rr r1 e1, iteT ⟨fun σ3 H3 => ∃ ρ' c', SR C.K σ3 H3 ρ' c' S ∧ SW C W io E σ3 ρ' c' S H3 (whGo mc mb m ρ'), fun σ3 H3 w => ⟨m, Nat.lt_succ_self _, w⟩, ρ', c', S, sr'.ex x1, ?_⟩⟩
        cases e2 : mb ρ' with
        | stuck => rw [e2] at q; exact q.elim
        | nx ρ2 => rw [e2] at q; exact fun σ3 H3 c3 a b => ⟨ρ2, c3, a, SW.after b q⟩
        | ct ρ2 => rw [e2] at q; exact fun σ3 H3 c3 a b => ⟨ρ2, c3, a, SW.after b q⟩
        | bk ρ2 => rw [e2] at q; exact q
        | rt r ρ2 => rw [e2] at q; exact q
        | ex k pl ρ2 => rw [e2] at q; exact q
      · next e1 => exact ⟨false, asBl_rr r1 e1, iteF (q.nx (sr'.ex x1) Stp.refl)⟩
      · exact q.elim
/-- a, b, .. = e -/
def sUnp (t : Tg) (m : Env → Res R) (ρ : Env) : Out := oB (m ρ) ρ fun r => match r.froz with
  | some d => (match bindD t d ρ with
    | some ρ1 => .nx ρ1
    | none => .stuck)
  | none => .stuck
def noTup : Expr → Bool
  | .Tuple .. => false
  | _ => true
theorem swapped_no {e : Expr} {es : List Expr} {env : PySem.Env} (h : noTup e = true) : swappedStores es e env = pure none := by
  unfold swappedStores
  cases e <;> first | (simp [noTup] at h; done) | skip
  all_goals (rcases es with _ | ⟨a, _ | ⟨b, l⟩⟩ <;> first | rfl | (cases a <;> rfl))
theorem ps_unpM {es : List Expr} {k : Nat} {e : Expr} {m : Env → Res R} {p' : Pos} (hK : X.K = C.K) (he : PE X e (tM C W m)) (hg : PG X (.Tuple es k p') (tgT X.K t)) (hc : noComp e = true) (ht : noTup e = true) (hio : ∀ i ∈ t.slots, i ∉ io) :
    PS X (.Assign [.Tuple es k p'] e pos) (tS C W io (sUnp t m)) :=
  PS.weak (ps_asg he hg (by unfold swapsWithSole; exact swaps_no hc) (swapped_no ht)) fun E σ H ⟨ρ, c, S, sr, h⟩ => ⟨ρ, c, S, sr, (SW.rw sr h).imp fun v H1 ⟨r, x1, r1, q⟩ => by
    split at q
    · next d e1 =>
      split at q
      · next ρ1 e2 =>
        rw [hK]
        exact bind_ok (sr.ex x1) (r1.froz e1) e2 hio fun σ1 c1 s1 s2 => q.nx s1 s2
      · exact q.elim
    · exact q.elim⟩
end

/-! ### a list (dict) that a slot owns is changed -/
section
variable {K : PySem.W.Frag} {io : List Nat} {σ : L2.St} {H H' : Hp} {ρ : Env} {c : Nat → List Addr} {S : Addr → Prop} {i : Nat} {a : Addr} {d d' : D} {o : HO}
theorem SR.upd (h : SR K σ H ρ c S) (e : ρ[i]? = some (some (.own d))) (ha : σ[i]? = some (some (.ref a))) (r : Cell (L2.upd H a o) (Mp.Own c S) a d') : SR K σ (L2.upd H a o) (ρ.set i (some (.own d'))) c S ∧ Stp io σ ρ c H σ (ρ.set i (some (.own d'))) c (L2.upd H a o) := by
  obtain ⟨v, h1, b, rfl, hcell, hb⟩ := h.rep i _ e
  rw [ha] at h1
  cases h1
  have hi : i < ρ.length := (List.getElem?_eq_some_iff.mp e).1
  have ca : Cel c a := ⟨i, by rw [hcell]; simp⟩
  have ne : ∀ {x}, ¬ Cel c x → x ≠ a := fun n z => n (z ▸ ca)
  refine ⟨⟨by simp [h.len], fun j r' ej => ?_, fun j ej => ?_, h.dis, h.sep, fun x z => ?_⟩, ⟨fun x u n q => ?_, fun x u q => ?_, fun x z => .inl z, fun j d q => ?_, fun _ _ => rfl⟩⟩
  · by_cases hj : i = j
    · subst hj
      rw [List.getElem?_set_self hi] at ej
      cases ej
      exact ⟨.ref a, ha, a, rfl, hcell, r⟩
    · rw [List.getElem?_set_ne hj] at ej
      obtain ⟨w, w1, w2⟩ := h.rep j r' ej
      refine ⟨w, w1, w2.move (fun x u n q => ?_) (fun _ _ n _ => n) (fun x u n q => ?_) (fun _ _ n _ => n) (fun x hx => ?_)⟩
      · rw [upd_ne (ne n)]; exact q
      · rw [upd_ne (ne fun z => n (.inl z))]; exact q
      · exact upd_ne fun z => by subst z; exact hj (h.dis i j x (by rw [hcell]; simp) hx)
  · refine h.off j fun r' z => ?_
    by_cases hj : i = j
    · subst hj; exact ej _ (List.getElem?_set_self hi)
    · exact ej r' (by rw [List.getElem?_set_ne hj]; exact z)
  · by_cases hx : x = a
    · subst hx; exact ⟨_, upd_same⟩
    · rw [upd_ne hx]; exact h.trk x z
  · rw [upd_ne (ne n)]; exact q
  · by_cases hx : x = a
    · subst hx; exact ⟨_, upd_same⟩
    · rw [upd_ne hx]; exact ⟨u, q⟩
  · exact ⟨(set_bor (fun _ z => by cases z) q).1, rfl⟩
theorem SR.ownL (h : SR K σ H ρ c S) {ds : List D} (e : ρ[i]? = some (some (.own (.lst ds)))) : ∃ a vs, σ[i]? = some (some (.ref a)) ∧ Cel c a ∧ H a = some (.lst vs) ∧ Rps H (Mp.Own c S) vs ds := by
  obtain ⟨v, h1, a, rfl, hcell, vs, hv, r⟩ := h.rep i _ e
  exact ⟨a, vs, h1, ⟨i, by rw [hcell]; simp⟩, hv, r⟩
theorem Rps.upd {P : Addr → Prop} {vs : List V} {ds : List D} (h : Rps H P vs ds) (ha : P a) : Rps (L2.upd H a o) P vs ds := h.move (fun x u n q => by rw [upd_ne (fun (z : x = a) => n (by rw [z]; exact ha))]; exact q) fun _ _ n _ => n
theorem Rp.upd {P : Addr → Prop} {v : V} {d : D} (h : Rp H P v d) (ha : P a) : Rp (L2.upd H a o) P v d := h.move (fun x u n q => by rw [upd_ne (fun (z : x = a) => n (by rw [z]; exact ha))]; exact q) fun _ _ n _ => n
end
/-- a list that a slot owns -/
def onL (i : Nat) (ρ : Env) (f : List D → Out) : Out := match ρ[i]? with
  | some (some (.own (.lst ds))) => f ds
  | _ => .stuck
/-- x.append(e) -/
def sApp (i : Nat) (m : Env → Res R) (ρ : Env) : Out := onL i ρ fun ds => oB (m ρ) ρ fun r => match r.froz with
  | some d => if ds.length < LIM then .nx (ρ.set i (some (.own (.lst (ds ++ [d]))))) else .stuck
  | _ => .stuck
/-- x.extend(e) -/
def sExt (i : Nat) (m : Env → Res R) (ρ : Env) : Out := onL i ρ fun ds => oB (m ρ) ρ fun r => match r.froz with
  | some (.lst es) => if ds.length + es.length ≤ LIM then .nx (ρ.set i (some (.own (.lst (ds ++ es))))) else .stuck
  | _ => .stuck
/-- x.clear() -/
def sClr (i : Nat) (ρ : Env) : Out := onL i ρ fun _ => .nx (ρ.set i (some (.own (.lst []))))
section
variable {X : Cx} {C : Cn} {W : WX} {io : List Nat} {E : Ends} {σ : L2.St} {H : Hp} {ρ : Env} {c : Nat → List Addr} {S : Addr → Prop} {f : List D → Out} {i : Nat} {x : Str} {px apos cpos pos : Pos} {e : Expr} {m : Env → Res R}
theorem onL_ok (sr : SR C.K σ H ρ c S) (h : SW C W io E σ ρ c S H (onL i ρ f)) : ∃ ds a vs, ρ[i]? = some (some (.own (.lst ds))) ∧ σ[i]? = some (some (.ref a)) ∧ Mp.Own c S a ∧ H a = some (.lst vs) ∧ Rps H (Mp.Own c S) vs ds ∧ SW C W io E σ ρ c S H (f ds) := by
  unfold onL at h
  split at h
  · next ds e0 =>
    obtain ⟨a, vs, ha, ca, hv, rv⟩ := sr.ownL e0
    exact ⟨ds, a, vs, e0, ha, .inl ca, hv, rv, h⟩
  · exact h.elim
theorem ps_appM (hN : X.N[i]? = some x) (hv : Vis X.env.scope x) (hd : (x == ("__debug__" : Str)) = false) (hcd : (x == ("__classdict__" : Str)) = false) (he : PE X e (tM C W m)) (hst : noStar e = true) (hl : (apos.endLine == cpos.line) = true) :
    PS X (.Expr (.Call (.Attribute (.Name x px) "append" apos) [e] [] cpos) pos) (tS C W io (sApp i m)) :=
  PS.weak (ps_expr (pe_bm PySem.F.plainAttrs_list PySem.F.slot_list_append PySem.F.type_list_append mt_append (pe_var hN hv hd hcd) (pa_cons he pa_nil (starEach_cons hst)) rfl (by rw [starEach_cons hst]; rfl) hl (starEach_cons hst) rfl) rfl) fun E σ H ⟨ρ, c, S, sr, h⟩ => by
    obtain ⟨ds, a, vs, e0, ha, ca, hv, rv, h⟩ := onL_ok sr h
    refine ⟨.ref a, ha, .inl ⟨rfl, vs, SqL.of hv⟩, ρ, c, S, sr, (SW.rw sr h).imp fun v H1 ⟨r, x1, r1, q⟩ => ?_⟩
    split at q
    · next d e3 =>
      split at q
      · next hz =>
        refine ⟨a, vs, v, rfl, rfl, x1 _ _ hv, by rw [rv.length]; exact lim_lt hz, ?_⟩
        obtain ⟨s1, s2⟩ := (sr.ex x1).upd (io := io) (a := a) (o := .lst (vs ++ [v])) (d' := .lst (ds ++ [d])) e0 ha ⟨vs ++ [v], upd_same, ((rv.ex x1).append (Rps.one (r1.froz e3))).upd ca⟩
        exact q.nx s1 s2
      · exact q.elim
    · exact q.elim
theorem ps_extM (hN : X.N[i]? = some x) (hv : Vis X.env.scope x) (hd : (x == ("__debug__" : Str)) = false) (hcd : (x == ("__classdict__" : Str)) = false) (he : PE X e (tM C W m)) (hst : noStar e = true) (hl : (apos.endLine == cpos.line) = true) :
    PS X (.Expr (.Call (.Attribute (.Name x px) "extend" apos) [e] [] cpos) pos) (tS C W io (sExt i m)) :=
  PS.weak (ps_expr (pe_bm PySem.F.plainAttrs_list PySem.F.slot_list_extend PySem.F.type_list_extend mt_extend (pe_var hN hv hd hcd) (pa_cons he pa_nil (starEach_cons hst)) rfl (by rw [starEach_cons hst]; rfl) hl (starEach_cons hst) rfl) rfl) fun E σ H ⟨ρ, c, S, sr, h⟩ => by
    obtain ⟨ds, a, vs, e0, ha, ca, hv, rv, h⟩ := onL_ok sr h
    refine ⟨.ref a, ha, .inl ⟨rfl, vs, SqL.of hv⟩, ρ, c, S, sr, (SW.rw sr h).imp fun v H1 ⟨r, x1, r1, q⟩ => ?_⟩
    split at q
    · next es e3 =>
      split at q
      · next hz =>
        have rz := r1.froz e3
        simp only [Rp] at rz
        obtain ⟨b, zs, rfl, _, hb, rz⟩ := rz
        refine ⟨a, b, vs, zs, rfl, rfl, x1 _ _ hv, hb, by rw [rv.length, rz.length]; exact lim_ok hz, ?_⟩
        obtain ⟨s1, s2⟩ := (sr.ex x1).upd (io := io) (a := a) (o := .lst (vs ++ zs)) (d' := .lst (ds ++ es)) e0 ha ⟨vs ++ zs, upd_same, ((rv.ex x1).append rz).upd ca⟩
        exact q.nx s1 s2
      · exact q.elim
    · exact q.elim
theorem ps_clrM (hN : X.N[i]? = some x) (hv : Vis X.env.scope x) (hd : (x == ("__debug__" : Str)) = false) (hcd : (x == ("__classdict__" : Str)) = false) (hl : (apos.endLine == cpos.line) = true) :
    PS X (.Expr (.Call (.Attribute (.Name x px) "clear" apos) [] [] cpos) pos) (tS C W io (sClr i)) :=
  PS.weak (ps_expr (pe_bm0 PySem.F.plainAttrs_list PySem.F.slot_list_clear PySem.F.type_list_clear mt_clear (pe_var hN hv hd hcd) rfl hl) rfl) fun E σ H ⟨ρ, c, S, sr, h⟩ => by
    obtain ⟨ds, a, vs, e0, ha, ca, hv, rv, h⟩ := onL_ok sr h
    refine ⟨.ref a, ha, .inl ⟨rfl, vs, SqL.of hv⟩, a, vs, rfl, rfl, hv, ?_⟩
    obtain ⟨s1, s2⟩ := sr.upd (io := io) (a := a) (o := .lst []) (d' := .lst []) e0 ha ⟨[], upd_same, by simp [Rps]⟩
    exact h.nx s1 s2
end

/-! ### a list that a slot owns is walked, lent for that time -/
section
variable {K : PySem.W.Frag} {io : List Nat} {σ : L2.St} {H H' : Hp} {ρ : Env} {c : Nat → List Addr} {S S' : Addr → Prop} {i : Nat}
theorem SR.less (h : SR K σ H ρ c S') (n : ∀ a, S a → S' a) : SR K σ H ρ c S :=
  ⟨h.len, fun i r e => let ⟨v, h1, h2⟩ := h.rep i r e; ⟨v, h1, h2.move (fun _ _ _ q => q) (fun _ _ n _ => n) (fun _ _ _ q => q) (fun _ _ m _ z => m (z.imp id (n _))) fun _ _ => rfl⟩, h.off, h.dis, fun i a q z => h.sep i a q (n a z), fun a z => h.trk a (z.imp id (n a))⟩
/-- lent: the slot is read alone, its cell is a stranger's -/
theorem SR.lend (h : SR K σ H ρ c S) {ds : List D} {a : Addr} {vs : List V} (e : ρ[i]? = some (some (.own (.lst ds)))) (ha : σ[i]? = some (some (.ref a))) (hc : c i = [a]) (hv : H a = some (.lst vs)) (r : Rps H (Mp.Own c S) vs ds) :
    SR K σ H (ρ.set i (some (.bor (.lst ds)))) (cut c i) (fun x => S x ∨ x = a) where
  len := by simp [h.len]
  rep := fun j r' ej => by
    have ow : ∀ x, Mp.Own (cut c i) (fun x => S x ∨ x = a) x → Mp.Own c S x := fun x z => by
      rcases z with z | z | z
      · exact .inl (cut_cel z)
      · exact .inr z
      · subst z; exact .inl ⟨i, by rw [hc]; simp⟩
    by_cases hj : i = j
    · subst hj
      rw [List.getElem?_set_self (List.getElem?_eq_some_iff.mp e).1] at ej
      cases ej
      refine ⟨.ref a, ha, by unfold cut; rw [if_pos rfl], a, vs, rfl, .inl ⟨fun z => ?_, .inl hv⟩, r.less ow⟩
      obtain ⟨j, hj⟩ := z
      unfold cut at hj
      split at hj
      · cases hj
      · next n => exact n (h.dis j i a hj (by rw [hc]; simp))
    · rw [List.getElem?_set_ne hj] at ej
      obtain ⟨w, w1, w2⟩ := h.rep j r' ej
      refine ⟨w, w1, ?_⟩
      rw [show cut c i j = c j by unfold cut; rw [if_neg (fun z => hj z.symm)]]
      exact w2.move (fun _ _ _ q => q) (fun _ _ n _ z => n (cut_cel z)) (fun _ _ _ q => q) (fun _ _ n _ z => n (ow _ z)) fun _ _ => rfl
  off := fun j ej => by
    unfold cut
    split
    · rfl
    · next n => exact h.off j fun r' z => ej r' (by rw [List.getElem?_set_ne (fun w => n w.symm)]; exact z)
  dis := fun j k x h1 h2 => (h.drop i).dis j k x h1 h2
  sep := fun j x h1 z => by
    unfold cut at h1
    split at h1
    · cases h1
    · next n =>
      rcases z with z | z
      · exact h.sep j x h1 z
      · subst z; exact n (h.dis j i x h1 (by rw [hc]; simp))
  trk := fun x z => by
    rcases z with z | z | z
    · exact h.trk x (.inl (cut_cel z))
    · exact h.trk x (.inr z)
    · subst z; exact ⟨_, hv⟩
end
def lendK (i : Nat) (ds : List D) (o : Out) : Out := match o with
  | .nx ρ' => (match ρ'[i]? with
    | some (some (.bor _)) => .nx (ρ'.set i (some (.own (.lst ds))))
    | _ => .stuck)
  | .rt r ρ' => .rt r (ρ'.set i none)
  | _ => .stuck
def sLend (i : Nat) (t : Tg) (mb : Env → Out) (ρ : Env) : Out := onL i ρ fun ds => lendK i ds (forGo t mb ds (ρ.set i (some (.bor (.lst ds)))))
section
variable {C : Cn} {W : WX} {io : List Nat} {E : Ends} {σ : L2.St} {H : Hp} {ρ : Env} {c : Nat → List Addr} {S : Addr → Prop} {i : Nat} {ds : List D} {o : Out}
theorem lend_back (h : SR C.K σ H ρ c S) {a : Addr} {vs : List V} (e : ρ[i]? = some (some (.own (.lst ds)))) (ha : σ[i]? = some (some (.ref a))) (hc : c i = [a]) (hv : H a = some (.lst vs)) (r : Rps H (Mp.Own c S) vs ds) (hio : i ∉ io)
    (q : SW C W io E σ ρ c S H (lendK i ds o)) : SW C W io E σ (ρ.set i (some (.bor (.lst ds)))) (cut c i) (fun x => S x ∨ x = a) H o := by
  have ca : Cel c a := ⟨i, by rw [hc]; simp⟩
  have cc : ∀ {x}, Cel (cut c i) x → Cel c x := fun z => cut_cel z
  have stp : ∀ {σ' : L2.St} {ρ' : Env} {c' c'' : Nat → List Addr} {H' : Hp} {ρ'' : Env}, Stp io σ (ρ.set i (some (.bor (.lst ds)))) (cut c i) H σ' ρ' c' H' → (∀ x, Cel c'' x → Cel c' x ∨ x = a) → (∀ j d, ρ''[j]? = some (some (R.bor d)) → j ≠ i ∧ ρ'[j]? = some (some (R.bor d))) → (∀ j, j ≠ i → c'' j = c' j) →
      Stp io σ ρ c H σ' ρ'' c'' H' := fun {σ' ρ' c' c'' H' ρ''} b n1 n2 n3 =>
    ⟨fun x o n q => b.fr x o (fun z => n (cc z)) q, b.tr, fun x z => (n1 x z).elim (fun z => (b.nw x z).imp cc id) (fun z => .inl (z ▸ ca)), fun j d z => by
      obtain ⟨z1, z2⟩ := n2 j d z
      obtain ⟨z3, z4⟩ := b.bo j d z2
      rw [List.getElem?_set_ne (fun w => z1 w.symm)] at z3
      exact ⟨z3, z4⟩, fun j hj => by
      have hji : j ≠ i := fun z => hio (z ▸ hj)
      rw [n3 j hji, b.io j hj]
      unfold cut
      rw [if_neg hji]⟩
  cases o with
  | bk ρ' => exact q.elim
  | ct ρ' => exact q.elim
  | stuck => exact q.elim
  | ex k pl ρ' => exact q.elim
  | rt r' ρ' =>
    intro v σ' H' c' sr' st' rt
    refine q v σ' H' (cut c' i) ((sr'.dropE i).less fun _ z => .inl z) (stp st' (fun x z => .inl (cut_cel z)) (fun j d z => ?_) fun j hj => by unfold cut; rw [if_neg hj]) ?_
    · obtain ⟨z1, z2⟩ := set_none z
      exact ⟨fun w => z2 w.symm, z1⟩
    · have sub : ∀ x, Abr io c S x → Abr io (cut c i) (fun x => S x ∨ x = a) x := fun x z => by
        rcases z with z | ⟨j, hj, z⟩
        · exact .inl (.inl z)
        · exact .inr ⟨j, hj, by unfold cut; rw [if_neg (fun (w : j = i) => hio (by rw [← w]; exact hj))]; exact z⟩
      cases r' with
      | val d => exact Rp.less sub rt
      | own d =>
        obtain ⟨x, e1, e2, e3, e4⟩ := rt
        exact ⟨x, e1, e2.imp cc id, fun z => e3 (sub x z), e4.less fun b z => z.imp (sub b) id⟩
      | bor d => exact Lent.less sub rt
  | nx ρ' =>
    intro σ' H' c' sr' st'
    unfold lendK at q
    simp only at q
    split at q
    · next d' eb =>
      have hi' : i < ρ'.length := (List.getElem?_eq_some_iff.mp eb).1
      obtain ⟨b1, b2⟩ := st'.bo i _ eb
      have ci : c' i = [] := by
        obtain ⟨_, _, z⟩ := sr'.rep i _ eb
        exact z.1
      have ha' : σ'[i]? = some (some (.ref a)) := b2.trans ha
      have nca : ¬ Cel (cut c i) a := fun ⟨j, hj⟩ => by
        unfold cut at hj
        split at hj
        · cases hj
        · next n => exact n (h.dis j i a hj (by rw [hc]; simp))
      have hva : H' a = some (.lst vs) := st'.fr a _ nca hv
      have keep : ∀ x u, ¬ Mp.Own c S x → H x = some u → H' x = some u := fun x u n z => st'.fr x u (fun w => n (.inl (cc w))) z
      have own2 : ∀ x, Mp.Own (put1 c' i a) S x → Mp.Own c' (fun x => S x ∨ x = a) x := fun x z => by
        rcases put1_own z with z | z
        · rcases z with z | z
          · exact .inl (cut_cel z)
          · exact .inr (.inl z)
        · exact .inr (.inr z)
      have own3 : ∀ x u, ¬ Mp.Own c S x → H x = some u → ¬ Mp.Own (put1 c' i a) S x := fun x u n z w => by
        rcases own2 x w with w | w | w
        · rcases st'.nw x w with w | w
          · exact n (.inl (cc w))
          · rw [w] at z; cases z
        · exact n (.inr w)
        · exact n (.inl (w ▸ ca))
      have srN : SR C.K σ' H' (ρ'.set i (some (.own (.lst ds)))) (put1 c' i a) S := by
        have base := sr'.less (S := S) fun _ z => .inl z
        have nown : ¬ Mp.Own c' S a := fun z => z.elim (fun ⟨j, hj⟩ => sr'.sep j a hj (.inr rfl)) fun z => h.sep i a (by rw [hc]; simp) z
        have s0 := base.setO (i := i) (a := a) (d := .lst ds) nown hi' (fun j r' hj ej w hw hr => ?_) ⟨vs, hva, r.move keep own3⟩
        · have e1 : σ'.set i (some (.ref a)) = σ' := by
            apply List.ext_getElem?
            intro j
            by_cases hj : i = j
            · subst hj
              rw [ha', List.getElem?_set_self (List.getElem?_eq_some_iff.mp ha').1]
            · rw [List.getElem?_set_ne hj]
          rw [e1] at s0
          exact s0
        · cases r' with
          | val d =>
            refine ⟨hr.1, ?_⟩
            obtain ⟨w', w1, w2⟩ := sr'.rep j _ ej
            rw [hw] at w1; cases w1
            exact w2.2.less own2
          | own d =>
            obtain ⟨w', w1, x, w2, w3, w4⟩ := sr'.rep j _ ej
            rw [hw] at w1; cases w1
            exact ⟨x, w2, w3, w4.less own2⟩
          | bor d =>
            refine ⟨hr.1, ?_⟩
            obtain ⟨z1, z2⟩ := st'.bo j _ ej
            rw [List.getElem?_set_ne (fun w => hj w.symm)] at z1
            obtain ⟨w', w1, w2⟩ := h.rep j _ z1
            rw [z2, w1] at hw; cases hw
            refine w2.2.move (fun x u n z => st'.fr x u (fun w => n (cc w)) z) (fun x u n z w => ?_) keep own3
            rcases put1_cel w with w | w
            · rcases st'.nw x (cut_cel w) with w | w
              · exact n (cc w)
              · rw [w] at z; cases z
            · exact n (w ▸ ca)
      refine q.nx srN (stp st' (fun x z => (put1_cel z).imp (fun z => cut_cel z) id) (fun j d z => ?_) fun j hj => by unfold put1; rw [if_neg hj])
      obtain ⟨z1, z2⟩ := set_bor (fun _ z => by cases z) z
      exact ⟨fun w => z2 w.symm, z1⟩
    · exact q.elim
end
section
variable {X : Cx} {C : Cn} {W : WX} {io : List Nat} {tg : Expr} {t : Tg} {mb : Env → Out} {sb : List Stmt} {pos px : Pos} {x : Str} {i : Nat}
theorem ps_lendM (hK : X.K = C.K) (hp : PassesOwn (model X.prog X.w) X.A X.env X.xe) (hc : X.calm = true) (hN : X.N[i]? = some x) (hv : Vis X.env.scope x) (hd : (x == ("__debug__" : Str)) = false) (hcd : (x == ("__classdict__" : Str)) = false)
    (hg : PG X tg (tgT X.K t)) (hb : PSs X sb (tS C W io mb)) (hio : ∀ i ∈ t.slots, i ∉ io) (hi : i ∉ io) : PS X (.For tg (.Name x px) sb [] pos) (tS C W io (sLend i t mb)) :=
  PS.weak (ps_for hp hc (pi_seq (pe_var hN hv hd hcd)) hg hb (folded_of rfl)) fun E σ H ⟨ρ, c, S, sr, h⟩ => by
    unfold sLend onL at h
    split at h
    · next ds e0 =>
      obtain ⟨v, h1, a, rfl, hcell, vs, hvs, rv⟩ := sr.rep i _ e0
      refine ⟨.ref a, h1, .inl ⟨a, vs, rfl, SqL.of hvs, ?_⟩⟩
      have s1 := sr.lend e0 h1 hcell hvs rv
      rw [hK]
      refine for_core s1 ?_ hio (lend_back sr e0 h1 hcell hvs rv hi h)
      refine src_list (fun x z => .inl z.2) (.inl ⟨fun z => ?_, .inl hvs⟩) (rv.less fun x z => ?_)
      · obtain ⟨j, hj⟩ := z.2
        unfold cut at hj
        split at hj
        · cases hj
        · next n => exact n (sr.dis j i a hj (by rw [hcell]; simp))
      · rcases z with z | z | z
        · exact .inl (cut_cel z)
        · exact .inr z
        · subst z; exact .inl ⟨i, by rw [hcell]; simp⟩
    · exact h.elim
end
end Mp

namespace Mp
open PySem L2

/-! ### a def's promise -/
/-- an argument -/
def AR (K : PySem.W.Frag) (H : Hp) (P : Addr → Prop) (v : V) : R → Prop
  | .val d => Rp H P v d
  | .bor d => Lent K H P v d
  | .own _ => False
def R.arg : R → R
  | .own d => .val d
  | r => r
theorem RR.toAR {K : PySem.W.Frag} {H0 H : Hp} {P : Addr → Prop} {v : V} {r : R} (h : RR K H0 H P v r) : AR K H P v r.arg := by
  cases r with
  | val d => exact h
  | own d => exact RR.froz (r := .own d) h rfl
  | bor d => exact h
theorem Pd.toAR {K : PySem.W.Frag} {H0 H : Hp} {P : Addr → Prop} {vs : List V} {rs : List R} (h : Paired (RR K H0 H P) vs rs) : Paired (AR K H P) vs (rs.map R.arg) := by
  induction h with
  | nil => exact .nil
  | cons r _ ih => exact .cons r.toAR ih
/-- what a def of n parameters promises -/
def spP (C : Cn) (n : Nat) (run : List R → Res R) : Sp := fun vs H Q E => vs.length = n ∧ ∃ rs P, (∀ a, P a → ∃ o, H a = some o) ∧ Paired (AR C.K H P) vs rs ∧ RW C (fun cls d _ H' => E cls d H') P [] H (run rs) Q
def eCall (run : List R → Res R) (ms : List (Env → Res R)) (ρ : Env) : Res R := (eArgs ms ρ).bind fun rs => run (rs.map R.arg)
/-- a def that may be called by the name x -/
def CallOk (X : Cx) (C : Cn) (n : Nat) (run : List R → Res R) (x : Str) : Prop :=
  ∃ (j : Nat) (f : Addr) (fd : FuncData) (ps : List Str), FnOk X.prog X.w X.K X.mg X.base (L2.CX X.prog X.w) j f fd ps (spP C n run) ∧ Room j X.A ∧ X.mg x = some (.ref f) ∧ PySem.W.keepIn X.K (.ref f) = true ∧ Binds X.K fd ps []
theorem eArgs_len : ∀ {ms : List (Env → Res R)} {ρ : Env} {rs : List R}, eArgs ms ρ = .ok rs → rs.length = ms.length
  | [], _, _, e => by simp [eArgs] at e; subst e; rfl
  | m :: ms, ρ, rs, e => by
    unfold eArgs at e
    split at e
    · split at e
      · next r _ rs' e2 => cases e; rw [List.length_cons, List.length_cons, eArgs_len e2]
      · cases e
      · cases e
    · cases e
    · cases e
theorem RWs.bindE {C : Cn} {W : WX} {P : Addr → Prop} {σ : L2.St} {H : Hp} {res : Res (List R)} {f : List R → Res R} {Q : VK} (h : RW C W P σ H (res.bind f) Q) : RWs C W P σ H res (fun vs H' => ∃ rs, res = .ok rs ∧ Ex H H' ∧ Paired (RR C.K H H' P) vs rs ∧ RW C W P σ H' (f rs) Q) := by
  cases res with
  | ok r => exact fun v H' e q => ⟨r, rfl, e, q, RW.mono e h⟩
  | exc c pl => exact h
  | stuck => exact h
section
variable {X : Cx} {C : Cn} {W : WX} {e : Expr} {es : List Expr} {ms : List (Env → Res R)} {pos p : Pos} {x : Str}
theorem pe_ownM {n : Nat} {run : List R → Res R} (hK : X.K = C.K) (tk : Takes X W) (F : CallOk X C n run x) (hg : Gl X x) (hdb : (x == ("__debug__" : Str)) = false) (ha : PA X (e :: es) (tMs C W (eArgs ms))) (hst : (e :: es).all noStar = true) (hn : ms.length = n) :
    PE X (.Call (.Name x p) (e :: es) [] pos) (tM C W (eCall run ms)) := by
  have h1 := hst
  rw [List.all_cons, Bool.and_eq_true] at h1
  obtain ⟨j, f, fd, ps, F, hr, hm, hk, hb⟩ := F
  exact PE.weak (pe_callS F hr hg hm hk hb (passAt tk) ha hdb (starEach_cons h1.1) (starEach_any h1.2)) fun σ H Q ⟨ρ, c, S, sr, q⟩ => ⟨ρ, c, S, sr, (RWs.bindE q).imp fun vs H1 ⟨rs, er, x1, r1, q1⟩ => by
    refine ⟨by rw [Paired.length r1, eArgs_len er, hn], rs.map R.arg, Mp.Own c S, (sr.ex x1).trk, Pd.toAR r1, ?_⟩
    cases e2 : run (rs.map R.arg) with
    | stuck => rw [e2] at q1; exact q1.elim
    | ok r => rw [e2] at q1; exact q1
    | exc k pl => rw [e2] at q1; exact q1⟩

/-! ### the comprehension -/
/-- its block's test -/
def MTs (C : Cn) (X : Cx) (ifs : List Expr) (tt : Option (Env → Res R)) : Prop := PTs X ifs (tTt C tt)
theorem pe_lcM {elt tg iter : Expr} {ifs : List Expr} {scope : Scope} {own : List (Str × Nat)} {src : Env → Res (List D)} {t : Tg} {tt : Option (Env → Res R)} {me : Env → Res R} (hK : X.K = C.K) (hc : X.calm = true) (hN : X.N.Nodup)
    (hi : PI X tg iter (tI C W false src)) (ok : BlkOk X.N X.env.scope scope own) (ho : own.map (·.2) = t.slots)
    (hg : ∀ (s : Shared) (H : Hp) (C' : Addr) (cl : List (Str × Addr)) (fp : List Addr), PG (X.blk s H scope (compEnvC scope cl C' X.env) fp) tg (tgT X.K t))
    (ht : ∀ (s : Shared) (H : Hp) (C' : Addr) (cl : List (Str × Addr)) (fp : List Addr), PTs (X.blk s H scope (compEnvC scope cl C' X.env) fp) ifs (tTt C tt))
    (he : ∀ (s : Shared) (H : Hp) (C' : Addr) (cl : List (Str × Addr)) (fp : List Addr), PE (X.blk s H scope (compEnvC scope cl C' X.env) fp) elt (tM C WN me)) (hs : plainIter iter = true) :
    PE X (.ListComp elt [⟨tg, iter, ifs, 0⟩] scope pos) (tM C W (eLc t src tt me)) :=
  PE.weak (pe_lc hc hN hi ok hg ht he (folded_of hs)) fun σ H Q h => by
    rw [ho, hK]
    exact lc_read h
theorem ps_setLcM {io : List Nat} {i : Nat} {y : Str} {py spos : Pos} {ow : Bool} {elt tg iter : Expr} {ifs : List Expr} {scope : Scope} {own : List (Str × Nat)} {src : Env → Res (List D)} {t : Tg} {tt : Option (Env → Res R)} {me : Env → Res R} (hK : X.K = C.K) (hc : X.calm = true) (hN : X.N.Nodup)
    (hy : X.N[i]? = some y) (hyl : X.env.scope.names.lookup y = some .local) (hk : X.env.scope.kind = .function) (hl : (py.line == pos.line) = true) (hsc : (scope.names.any fun (n, k) => n == y && (k == .local || k == .cell)) = false) (hio : i ∉ io)
    (hi : PI X tg iter (tI C W false src)) (ok : BlkOk X.N X.env.scope scope own) (ho : own.map (·.2) = t.slots)
    (hg : ∀ (s : Shared) (H : Hp) (C' : Addr) (cl : List (Str × Addr)) (fp : List Addr), PG (X.blk s H scope (compEnvC scope cl C' X.env) fp) tg (tgT X.K t))
    (ht : ∀ (s : Shared) (H : Hp) (C' : Addr) (cl : List (Str × Addr)) (fp : List Addr), PTs (X.blk s H scope (compEnvC scope cl C' X.env) fp) ifs (tTt C tt))
    (he : ∀ (s : Shared) (H : Hp) (C' : Addr) (cl : List (Str × Addr)) (fp : List Addr), PE (X.blk s H scope (compEnvC scope cl C' X.env) fp) elt (tM C WN me)) (hs : plainIter iter = true) :
    PS X (.Assign [.Name y py] (.ListComp elt [⟨tg, iter, ifs, 0⟩] scope pos) spos) (tS C W io (sSet ow i (eLc t src tt me))) :=
  PS.weak (ps_setLc hc hN hy hyl (sw_true hk hyl hl hsc) hi ok hg ht he (folded_of hs)) (tAsg_set (fun σ H Q h => by
    rw [ho, hK]
    exact lc_read h) hio)
end

/-! ### a def that changes one of its arguments -/
/-- what it leaves: the p-th parameter's list is still its own -/
def WO (C : Cn) (P : Addr → Prop) (a : Addr) (p : Nat) (H : Hp) (Q : VK) : Out → Prop
  | .nx ρ' => ∃ d', ρ'[p]? = some (some (.own d')) ∧ ∀ H', Fr (fun x => x = a) H H' → (∀ x o, H x = some o → ∃ o', H' x = some o') → Cell H' (fun b => P b ∨ b = a) a d' → Q .non H'
  | .rt r ρ' => ∃ d', ρ'[p]? = some (some (.own d')) ∧ ∀ v H', Fr (fun x => x = a) H H' → (∀ x o, H x = some o → ∃ o', H' x = some o') → Cell H' (fun b => P b ∨ b = a) a d' → RR C.K H H' (fun b => P b ∨ b = a) v r → Q v H'
  | _ => False
def spO (C : Cn) (n p : Nat) (run : List R → Out) : Sp := fun vs H Q _ => vs.length = n ∧ ∃ rs P a d, (∀ x, P x → ∃ o, H x = some o) ∧ ¬ P a ∧ vs[p]? = some (.ref a) ∧ rs[p]? = some (.own d) ∧ Cell H (fun b => P b ∨ b = a) a d ∧ rs.length = n ∧
  (∀ (i : Nat) (r : R), i ≠ p → rs[i]? = some r → ∃ v dd, vs[i]? = some v ∧ r = R.val dd ∧ Rp H (fun b => P b ∨ b = a) v dd) ∧ WO C P a p H Q (run rs)
def argO : Nat → D → List R → Option (List R)
  | _, _, [] => some []
  | 0, d, _ :: rs => (frozs rs).map fun ds => .own d :: ds.map .val
  | p + 1, d, r :: rs => match r.froz, argO p d rs with
    | some x, some ys => some (.val x :: ys)
    | _, _ => none
theorem frozs_get {K : PySem.W.Frag} {H0 H : Hp} {P : Addr → Prop} {vs : List V} {rs : List R} (h : Paired (RR K H0 H P) vs rs) {ds : List D} (e : frozs rs = some ds) : ds.length = rs.length ∧ ∀ (i : Nat) (r : R), (ds.map R.val)[i]? = some r → ∃ v dd, vs[i]? = some v ∧ r = R.val dd ∧ Rp H P v dd := by
  have q := Pd.froz h e
  refine ⟨by rw [← q.length, Paired.length h], fun i r hr => ?_⟩
  rw [List.getElem?_map] at hr
  cases z : ds[i]? with
  | none => rw [z] at hr; cases hr
  | some dd =>
    rw [z] at hr
    cases hr
    obtain ⟨v, h1, h2⟩ := q.get z
    exact ⟨v, dd, h1, rfl, h2⟩
theorem argO_ok {K : PySem.W.Frag} {H0 H : Hp} {P : Addr → Prop} : ∀ {p : Nat} {d : D} {vs : List V} {rs rs' : List R}, Paired (RR K H0 H P) vs rs → argO p d rs = some rs' → p < rs.length →
    rs'.length = rs.length ∧ rs'[p]? = some (.own d) ∧ ∀ (i : Nat) (r : R), i ≠ p → rs'[i]? = some r → ∃ v dd, vs[i]? = some v ∧ r = R.val dd ∧ Rp H P v dd
  | p, d, _, [], _, _, _, h => by simp at h
  | 0, d, _, _ :: rs, rs', .cons hv hvs, e, _ => by
    simp only [argO, Option.map_eq_some_iff] at e
    obtain ⟨ds, e1, rfl⟩ := e
    obtain ⟨l, g⟩ := frozs_get hvs e1
    refine ⟨by simp [l], by simp, fun i r hi hr => ?_⟩
    cases i with
    | zero => exact absurd rfl hi
    | succ i =>
      obtain ⟨v, dd, h1, h2, h3⟩ := g i r (by simpa using hr)
      exact ⟨v, dd, by simpa using h1, h2, h3⟩
  | p + 1, d, _, r0 :: rs, rs', .cons hv hvs, e, hp => by
    simp only [argO] at e
    split at e
    · next x ys e1 e2 =>
      cases e
      obtain ⟨l, g1, g2⟩ := argO_ok hvs e2 (by simpa using hp)
      refine ⟨by simp [l], by simpa using g1, fun i r hi hr => ?_⟩
      cases i with
      | zero =>
        simp only [List.getElem?_cons_zero, Option.some.injEq] at hr
        subst hr
        exact ⟨_, x, rfl, rfl, hv.froz e1⟩
      | succ i =>
        obtain ⟨v, dd, h1, h2, h3⟩ := g2 i r (by omega) (by simpa using hr)
        exact ⟨v, dd, by simpa using h1, h2, h3⟩
    · cases e
/-- arguments of which the p-th is the name in the slot i -/
def tMsO (C : Cn) (W : WX) (p i : Nat) (m : Env → Res (List R)) : TA := fun σ H Q => ∃ ρ c S, SR C.K σ H ρ c S ∧ RWs C W (Mp.Own c S) σ H (m ρ) fun vs H' => (∀ v, σ[i]? = some (some v) → vs[p]? = some v) → Q vs H'
section
variable {X : Cx} {C : Cn} {W : WX} {e : Expr} {es : List Expr} {m : Env → Res R} {ms : List (Env → Res R)} {pos p' px : Pos} {x y : Str} {i : Nat}
theorem pa_varO (hN : X.N[i]? = some x) (hv : Vis X.env.scope x) (hd : (x == ("__debug__" : Str)) = false) (hcd : (x == ("__classdict__" : Str)) = false) (hr : PA X es (tMs C W (eArgs ms))) : PA X (.Name x px :: es) (tMsO C W 0 i (eArgs (eVar i :: ms))) :=
  PA.weak (pa_cons (pe_var hN hv hd hcd) hr (starEach_cons rfl)) fun σ H Q ⟨ρ, c, S, sr, q⟩ => by
    simp only [eArgs] at q
    have key : ∀ r, eVar i ρ = .ok r → ∃ v, σ[i]? = some (some v) ∧ RR C.K H H (Mp.Own c S) v r := fun r e => by
      unfold eVar at e
      split at e
      · next d e1 =>
        cases e
        obtain ⟨v, h1, h2⟩ := sr.rep i _ e1
        exact ⟨v, h1, h2.2⟩
      · next d e1 =>
        cases e
        obtain ⟨v, h1, a, rfl, h2, h3⟩ := sr.rep i _ e1
        exact ⟨_, h1, h3.lent⟩
      · next d e1 =>
        cases e
        obtain ⟨v, h1, h2⟩ := sr.rep i _ e1
        exact ⟨v, h1, h2.2.lent⟩
      · cases e
    cases e1 : eVar i ρ with
    | stuck => rw [e1] at q; exact q.elim
    | exc k pl => unfold eVar at e1; split at e1 <;> cases e1
    | ok r =>
      obtain ⟨v, hv, rv⟩ := key r e1
      rw [e1] at q
      simp only at q
      refine ⟨v, hv, ρ, c, S, sr, ?_⟩
      cases e2 : eArgs ms ρ with
      | stuck => rw [e2] at q; exact q.elim
      | exc k pl => rw [e2] at q; exact q
      | ok rs =>
        rw [e2] at q
        intro vs H2 x2 r2
        refine q (v :: vs) H2 x2 (.cons (rv.mono (Ex.refl _) x2) r2) fun w hw => ?_
        rw [hv] at hw
        cases hw
        rfl
theorem pa_consO {p : Nat} (ha : PE X e (tM C W m)) (hr : PA X es (tMsO C W p i (eArgs ms))) (hs : noStar e = true) : PA X (e :: es) (tMsO C W (p + 1) i (eArgs (m :: ms))) :=
  PA.weak (pa_cons ha hr (starEach_cons hs)) fun σ H Q ⟨ρ, c, S, sr, q⟩ => by
    simp only [eArgs] at q
    refine ⟨ρ, c, S, sr, ?_⟩
    cases e1 : m ρ with
    | stuck => rw [e1] at q; exact q.elim
    | exc k pl => rw [e1] at q; exact q
    | ok r =>
      rw [e1] at q
      simp only at q
      intro v H1 x1 r1
      refine ⟨ρ, c, S, sr.ex x1, ?_⟩
      cases e2 : eArgs ms ρ with
      | stuck => rw [e2] at q; exact q.elim
      | exc k pl => rw [e2] at q; exact fun H' d x2 p => q H' d (x1.trans x2) p
      | ok rs =>
        rw [e2] at q
        intro vs H2 x2 r2 hv
        exact q (v :: vs) H2 (x1.trans x2) (.cons (r1.mono (Ex.refl _) x2) (Pd.mono x1 (Ex.refl _) r2)) fun w hw => by simpa using hv w hw
end
/-- behind the call -/
def backO (ret : Option Nat) (p j : Nat) (ρ : Env) (r : R) (ρ' : Env) : Out := match ρ'[p]? with
  | some (some (.own d')) => (match ret with
    | none => .nx (ρ.set j (some (.own d')))
    | some i => setR false i r (ρ.set j (some (.own d'))))
  | _ => .stuck
def callO (run : List R → Out) (ret : Option Nat) (p j : Nat) (d : D) (ρ : Env) (rs : List R) : Out := match argO p d rs with
  | some rs' => (match run rs' with
    | .nx ρ' => backO ret p j ρ (.val .non) ρ'
    | .rt r ρ' => backO ret p j ρ r ρ'
    | _ => .stuck)
  | none => .stuck
def oBs (x : Res (List R)) (ρ : Env) (f : List R → Out) : Out := match x with
  | .ok r => f r
  | .exc k pl => .ex k pl ρ
  | .stuck => .stuck
def onO (i : Nat) (ρ : Env) (f : D → Out) : Out := match ρ[i]? with
  | some (some (.own d)) => f d
  | _ => .stuck
def sCallO (run : List R → Out) (ret : Option Nat) (ms : List (Env → Res R)) (p j : Nat) (ρ : Env) : Out := onO j ρ fun d => oBs (eArgs ms ρ) ρ fun rs => callO run ret p j d ρ rs
def CallOkO (X : Cx) (C : Cn) (n p : Nat) (run : List R → Out) (x : Str) : Prop :=
  ∃ (k : Nat) (f : Addr) (fd : FuncData) (ps : List Str), FnOk X.prog X.w X.K X.mg X.base (L2.CX X.prog X.w) k f fd ps (spO C n p run) ∧ Room k X.A ∧ X.mg x = some (.ref f) ∧ PySem.W.keepIn X.K (.ref f) = true ∧ Binds X.K fd ps []
section
variable {K : PySem.W.Frag} {io : List Nat} {σ : L2.St} {H H' : Hp} {ρ : Env} {c : Nat → List Addr} {S : Addr → Prop} {j : Nat} {a : Addr} {d d' : D}
/-- the cell of a slot was changed by another def -/
theorem SR.chg (h : SR K σ H ρ c S) (e : ρ[j]? = some (some (.own d))) (ha : σ[j]? = some (some (.ref a))) (hc : c j = [a]) (fr : Fr (fun x => x = a) H H') (tr : ∀ x o, H x = some o → ∃ o', H' x = some o') (r : Cell H' (Mp.Own c S) a d') :
    SR K σ H' (ρ.set j (some (.own d'))) c S ∧ Stp io σ ρ c H σ (ρ.set j (some (.own d'))) c H' := by
  have hj : j < ρ.length := (List.getElem?_eq_some_iff.mp e).1
  have ca : Cel c a := ⟨j, by rw [hc]; simp⟩
  have ne : ∀ {x}, ¬ Cel c x → x ≠ a := fun n z => n (z ▸ ca)
  refine ⟨⟨by simp [h.len], fun i r' ei => ?_, fun i ei => ?_, h.dis, h.sep, fun x z => ?_⟩, ⟨fun x o n q => fr x o (ne n) q, tr, fun x z => .inl z, fun i d q => ⟨(set_bor (fun _ z => by cases z) q).1, rfl⟩, fun _ _ => rfl⟩⟩
  · by_cases hi : j = i
    · subst hi
      rw [List.getElem?_set_self hj] at ei
      cases ei
      exact ⟨.ref a, ha, a, rfl, hc, r⟩
    · rw [List.getElem?_set_ne hi] at ei
      obtain ⟨w, w1, w2⟩ := h.rep i r' ei
      refine ⟨w, w1, w2.move (fun x u n q => fr x u (ne n) q) (fun _ _ n _ => n) (fun x u n q => fr x u (ne fun z => n (.inl z)) q) (fun _ _ n _ => n) (fun x hx => ?_)⟩
      obtain ⟨o, q⟩ := h.trk x (.inl ⟨i, hx⟩)
      rw [q]
      exact fr x o (fun z => by subst z; exact hi (h.dis j i x (by rw [hc]; simp) hx)) q
  · refine h.off i fun r' z => ?_
    by_cases hi : j = i
    · subst hi; exact ei _ (List.getElem?_set_self hj)
    · exact ei r' (by rw [List.getElem?_set_ne hi]; exact z)
  · obtain ⟨o, q⟩ := h.trk x z
    exact tr x o q
end
section
variable {X : Cx} {C : Cn} {W : WX} {io : List Nat} {e : Expr} {es : List Expr} {ms : List (Env → Res R)} {pos cpos p' px : Pos} {x y : Str} {run : List R → Out} {n p j : Nat}
theorem callO_ok {E : Ends} {σ : L2.St} {H H1 : Hp} {ρ : Mp.Env} {c : Nat → List Addr} {S : Addr → Prop} {d : D} {vs : List V} {rs : List R} {ret : Option Nat} {Q : VK} (sr : SR C.K σ H ρ c S) (e0 : ρ[j]? = some (some (.own d))) (x1 : Ex H H1) (r1 : Paired (RR C.K H H1 (Mp.Own c S)) vs rs) (hn : rs.length = n) (hp : p < n)
    (hv : ∀ v, σ[j]? = some (some v) → vs[p]? = some v) (hio : ∀ i, ret = some i → i ∉ io) (hne : ∀ i, ret = some i → i ≠ j)
    (hQ : ∀ v H2, (∀ i, ret = some i → E.nx (σ.set i (some v)) H2) → (ret = none → E.nx σ H2) → Q v H2) (q : SW C W io E σ ρ c S H (callO run ret p j d ρ rs)) : spO C n p run vs H1 Q (WE W σ) := by
  obtain ⟨v0, h1, a, rfl, hc, hcell⟩ := sr.rep j _ e0
  unfold callO at q
  split at q
  · next rs' ea =>
    have ca : Mp.Own c S a := .inl ⟨j, by rw [hc]; simp⟩
    have eq : (fun b => (Mp.Own c S b ∧ b ≠ a) ∨ b = a) = Mp.Own c S := by
      funext b
      apply propext
      constructor
      · rintro (z | z)
        · exact z.1
        · exact z ▸ ca
      · intro z
        by_cases h : b = a
        · exact .inr h
        · exact .inl ⟨z, h⟩
    obtain ⟨l, g1, g2⟩ := argO_ok r1 ea (by omega)
    have srx := sr.ex x1
    refine ⟨by rw [Paired.length r1, hn], rs', fun b => Mp.Own c S b ∧ b ≠ a, a, d, fun b z => srx.trk b z.1, fun z => z.2 rfl, hv _ h1, g1, ?_, by omega, ?_, ?_⟩
    · rw [eq]; exact hcell.ex x1
    · rw [eq]; exact g2
    · have back : ∀ (r : R) (ρ' : Mp.Env), SW C W io E σ ρ c S H (backO ret p j ρ r ρ') → ∃ d', ρ'[p]? = some (some (.own d')) ∧ ∀ v H2, Fr (fun x => x = a) H1 H2 → (∀ x o, H1 x = some o → ∃ o', H2 x = some o') → Cell H2 (Mp.Own c S) a d' → RR C.K H1 H2 (Mp.Own c S) v r → Q v H2 := by
        intro r ρ' q
        unfold backO at q
        split at q
        · next d' e1 =>
          refine ⟨d', e1, fun v H2 fr tr cl rv => ?_⟩
          obtain ⟨s1, s2⟩ := srx.chg (io := io) e0 h1 hc fr tr cl
          have st : Stp io σ ρ c H σ (ρ.set j (some (.own d'))) c H2 := (Stp.ex x1).trans s2
          refine hQ v H2 (fun i hi => ?_) (fun hi => ?_)
          · subst hi
            simp only [setR] at q
            split at q
            · next dd ed => exact q.nx (s1.setV' (rv.froz ed)) (st.trans (Stp.setV (hio i rfl)))
            · exact q.elim
          · subst hi
            exact q.nx s1 st
        · exact q.elim
      cases e2 : run rs' with
      | stuck => rw [e2] at q; exact q.elim
      | bk ρ' => rw [e2] at q; exact q.elim
      | ct ρ' => rw [e2] at q; exact q.elim
      | ex k pl ρ' => rw [e2] at q; exact q.elim
      | nx ρ' =>
        rw [e2] at q
        obtain ⟨d', e3, k⟩ := back _ _ q
        exact ⟨d', e3, fun H2 fr tr cl => k .non H2 fr tr (by rw [eq] at cl; exact cl) (by simp [RR, Rp])⟩
      | rt r ρ' =>
        rw [e2] at q
        obtain ⟨d', e3, k⟩ := back _ _ q
        exact ⟨d', e3, fun v H2 fr tr cl rv => k v H2 fr tr (by rw [eq] at cl; exact cl) (by rw [eq] at rv; exact rv)⟩
  · exact q.elim
theorem sCallO_read {E : Ends} {σ : L2.St} {H : Hp} {ret : Option Nat} {Q : VK} (hlen : ms.length = n) (hp : p < n) (hio : ∀ i, ret = some i → i ∉ io) (hne : ∀ i, ret = some i → i ≠ j)
    (hQ : ∀ v H2, (∀ i, ret = some i → E.nx (σ.set i (some v)) H2) → (ret = none → E.nx σ H2) → Q v H2) (h : tS C W io (sCallO run ret ms p j) E σ H) : tCallS (spO C n p run) (WE W) (tMsO C W p j (eArgs ms)) σ H Q := by
  obtain ⟨ρ, c, S, sr, h⟩ := h
  unfold sCallO onO at h
  split at h
  · next d e0 =>
    refine ⟨ρ, c, S, sr, ?_⟩
    cases e1 : eArgs ms ρ with
    | stuck => rw [e1] at h; exact h.elim
    | exc k pl => rw [e1] at h; exact fun H1 d x q => h σ H1 c d (sr.ex x) (Stp.ex x) q
    | ok rs =>
      rw [e1] at h
      exact fun vs H1 x1 r1 hv => callO_ok sr e0 x1 r1 (by rw [eArgs_len e1, hlen]) hp hv hio hne hQ h
  · exact h.elim
theorem ps_callOM (tk : Takes X W) (F : CallOkO X C n p run x) (hg : Gl X x) (hdb : (x == ("__debug__" : Str)) = false) (ha : PA X (e :: es) (tMsO C W p j (eArgs ms))) (hst : (e :: es).all noStar = true) (hn : ms.length = n) (hp : p < n) :
    PS X (.Expr (.Call (.Name x px) (e :: es) [] cpos) pos) (tS C W io (sCallO run none ms p j)) := by
  have h1 := hst
  rw [List.all_cons, Bool.and_eq_true] at h1
  obtain ⟨k, f, fd, ps, F, hr, hm, hk, hb⟩ := F
  exact PS.weak (ps_expr (pe_callS F hr hg hm hk hb (passAt tk) ha hdb (starEach_cons h1.1) (starEach_any h1.2)) rfl) fun E σ H h => sCallO_read (ret := none) hn hp (fun i z => by cases z) (fun i z => by cases z) (fun v H2 _ z => z rfl) h
theorem ps_setCallOM {i : Nat} {py : Pos} (hN : X.N.Nodup) (hi : X.N[i]? = some y) (hx : L2.Loc X.env.scope y) (hf : X.fn y = true ∨ X.env.scope.names.lookup y = some .local) (hio : i ∉ io) (hij : i ≠ j) (tk : Takes X W) (F : CallOkO X C n p run x) (hg : Gl X x) (hdb : (x == ("__debug__" : Str)) = false)
    (ha : PA X (e :: es) (tMsO C W p j (eArgs ms))) (hst : (e :: es).all noStar = true) (hn : ms.length = n) (hp : p < n) :
    PS X (.Assign [.Name y py] (.Call (.Name x px) (e :: es) [] cpos) pos) (tS C W io (sCallO run (some i) ms p j)) := by
  have h1 := hst
  rw [List.all_cons, Bool.and_eq_true] at h1
  obtain ⟨k, f, fd, ps, F, hr, hm, hk, hb⟩ := F
  exact PS.weak (ps_set hN hi hx (pe_callS F hr hg hm hk hb (passAt tk) ha hdb (starEach_cons h1.1) (starEach_any h1.2)) rfl hf) fun E σ H h => sCallO_read (ret := some i) hn hp (fun i' z => by cases z; exact hio) (fun i' z => by cases z; exact hij) (fun v H2 z _ => z i rfl) h
end

/-! ### errors -/
/-- an own class of errors, made with a text -/
structure ExcAt (X : Cx) (x : Str) (a : Addr) : Prop where
  mg : X.mg x = some (.ref a)
  kp : PySem.W.keepIn X.K (.ref a) = true
  sub : PySem.W.subIn X.K (.ref a) (.type "BaseException") = some true
  ty : PySem.W.typeIn X.K (.ref a) = some (.type "type")
  ex : ∃ (B newId initId : String) (bmB : List Value), ExcBaseFacts B newId initId bmB ∧ PySem.W.excIn X.K a bmB newId = true
def sRaise (k : Nat) (ρ : Env) : Out := .ex k [] ρ
/-- what the clauses make of an error; t: which class a clause names -/
def catchGo (t : Nat → Nat → Option Bool) (k : Nat) (pl : List (Str × D)) (ρ : Env) : List (Nat × (Env → Out)) → Out
  | [] => .ex k pl ρ
  | (j, ms) :: r => match t k j with
    | some true => (match ms ρ with
      | .ex _ _ _ => .stuck
      | o => o)
    | some false => catchGo t k pl ρ r
    | none => .stuck
def sTry (t : Nat → Nat → Option Bool) (mb : Env → Out) (hs : List (Nat × (Env → Out))) (ρ : Env) : Out := match mb ρ with
  | .ex k pl ρ' => catchGo t k pl ρ' hs
  | o => o
section
variable {X : Cx} {C : Cn} {W : WX} {io : List Nat} {x : Str} {p p2 pos pos' : Pos} {m : Str} {j k : Nat}
theorem ps_raiseM (hc : X.calm = true) (tk : Takes X W) (hg : Gl X x) (hdb : (x == ("__debug__" : Str)) = false) (e : ExcAt X x (C.ca k)) : PS X (.Raise (some (.Call (.Name x p) [.Constant (.str m) j p2] [] pos)) none pos') (tS C W io (sRaise k)) := by
  obtain ⟨B, newId, initId, bmB, F, q⟩ := e.ex
  exact PS.weak (ps_raise hc tk (pmk_own F q e.mg e.kp (raises_own e.sub e.ty) hg hdb)) fun E σ H ⟨ρ, c, S, sr, h⟩ => h σ H c none sr Stp.refl (.inl ⟨rfl, rfl⟩)
/-- the clauses in words -/
inductive HdsM (X : Cx) (C : Cn) (io : List Nat) : List ExceptHandler → List (Nat × (Env → Out)) → Prop
  | nil : HdsM X C io [] []
  | cons {x : Str} {j : Nat} {m : Env → Out} {b₀ : Stmt} {suite : List Stmt} {np pos' : Pos} {hds : List ExceptHandler} {l : List (Nat × (Env → Out))} (hc : Names X x (.ref (C.ca j))) (hsu : ∀ (a : Addr) (pn : List (Addr × Obj)), PSs (X.suite a pn) (b₀ :: suite) (tS C WN io m)) (r : HdsM X C io hds l) :
      HdsM X C io (.ExceptHandler (some (.Name x np)) none (b₀ :: suite) pos' :: hds) ((j, m) :: l)
def hdT (C : Cn) (io : List Nat) (l : List (Nat × (Env → Out))) : List (Value × (Addr → Value → Option Addr → TS)) := l.map fun p => (.ref (C.ca p.1), fun _ _ _ => tS C WN io p.2)
theorem HdsM.ok {hds : List ExceptHandler} {l : List (Nat × (Env → Out))} (h : HdsM X C io hds l) : HdsOk X hds (hdT C io l) := by
  induction h with
  | nil => exact .nil
  | cons hc hsu _ ih => exact .cons hc (fun a oe _ _ pn _ _ => hsu a ((a, oe) :: pn)) ih
theorem catch_ok {K : PySem.W.Frag} {t : Nat → Nat → Option Bool} {E : Ends} {σ' : L2.St} {ρ' : Mp.Env} {c' : Nat → List Addr} {S : Addr → Prop} {H' : Hp} {k : Nat} {pl : List (Str × D)} {d : Option Addr} (ht : ∀ k j b, t k j = some b → PySem.W.exmOne K (.ref (C.ca k)) (.ref (C.ca j)) = some b)
    (sr' : SR C.K σ' H' ρ' c' S) (xp : XP H' (Mp.Own c' S) d pl) : ∀ l : List (Nat × (Env → Out)), SW C W io E σ' ρ' c' S H' (catchGo t k pl ρ' l) → wMany K W E (hdT C io l) (.ref (C.ca k)) d σ' H'
  | [], h' => h' σ' H' c' d sr' Stp.refl xp
  | (j, ms) :: r, h' => by
    unfold catchGo at h'
    split at h'
    · next e2 =>
      refine ⟨true, ht _ _ _ e2, fun _ a _ => ⟨ρ', c', S, sr', ?_⟩, fun z => by cases z⟩
      show SW C WN io E σ' ρ' c' S H' (ms ρ')
      cases e3 : ms ρ' with
      | nx ρ2 => rw [e3] at h'; exact h'
      | rt r ρ2 => rw [e3] at h'; exact h'
      | bk ρ2 => rw [e3] at h'; exact h'
      | ct ρ2 => rw [e3] at h'; exact h'
      | stuck => rw [e3] at h'; exact h'
      | ex k2 pl2 ρ2 => rw [e3] at h'; exact h'.elim
    · next e2 => exact ⟨false, ht _ _ _ e2, fun z => (by cases z), fun _ => catch_ok ht sr' xp r h'⟩
    · exact h'.elim
theorem ps_tryM {body : List Stmt} {hds : List ExceptHandler} {h₀ : ExceptHandler} {mb : Env → Out} {l : List (Nat × (Env → Out))} {t : Nat → Nat → Option Bool} (hs : X.stack = X.env :: X.outer) (hf : X.env.frame = some X.env.locals) (tk : Takes X W)
    (ht : ∀ k j b, t k j = some b → PySem.W.exmOne X.K (.ref (C.ca k)) (.ref (C.ca j)) = some b)
    (hb : ∀ (W : WX) (pn : List (Addr × Obj)) (xe : Value → Shared → Prop), Takes (X.tr pn xe) W → PassesOwn (model X.prog X.w) X.A X.env xe → PSs (X.tr pn xe) body (tS C W io mb))
    (hh : HdsM X C io (h₀ :: hds) l) : PS X (.Try body (h₀ :: hds) [] [] pos) (tS C W io (sTry t mb l)) :=
  PS.weak (ps_try_many (tb := fun W => tS C W io mb) hs hf tk hb hh.ok) fun E σ H ⟨ρ, c, S, sr, h⟩ => by
    refine ⟨ρ, c, S, sr, ?_⟩
    unfold sTry at h
    cases e1 : mb ρ with
    | nx ρ' => rw [e1] at h; exact h
    | rt r ρ' => rw [e1] at h; exact h
    | bk ρ' => rw [e1] at h; exact h
    | ct ρ' => rw [e1] at h; exact h
    | stuck => rw [e1] at h; exact h
    | ex k pl ρ' =>
      rw [e1] at h
      exact fun σ' H' c' d sr' st' xp => catch_ok ht sr' xp l (SW.after st' h)
end

/-! ### dicts: {}, d[k] = v -/
def dctPutK (ks : List D) (k : D) : List D := if (ks.any fun x => keq x k) = true then ks else ks ++ [k]
def dctPutV (ks vs : List D) (k v : D) : List D := if (ks.any fun x => keq x k) = true then List.zipWith (fun k' v' => if keq k' k = true then v else v') ks vs else vs ++ [v]
theorem put_rel {H : Hp} {P : Addr → Prop} {κ : Type} [DecidableEq κ] {f : κ → D} (hf : ∀ a b, keq (f a) (f b) = decide (a = b)) (k : κ) {v : V} {d : D} (rv : Rp H P v d) {kvs : List (κ × V)} {ds : List D} (r : Rps H P (kvs.map (·.2)) ds) :
    (putK kvs k v).map (fun p => f p.1) = dctPutK (kvs.map fun p => f p.1) (f k) ∧ Rps H P ((putK kvs k v).map (·.2)) (dctPutV (kvs.map fun p => f p.1) ds (f k) d) := by
  have ea : ((kvs.map fun p => f p.1).any fun x => keq x (f k)) = kvs.any fun kv => decide (kv.1 = k) := by
    rw [List.any_map]
    congr 1
    funext p
    exact hf _ _
  unfold putK dctPutK dctPutV
  rw [ea]
  by_cases h : (kvs.any fun kv => decide (kv.1 = k)) = true
  · rw [if_pos h, if_pos h, if_pos h]
    refine ⟨?_, ?_⟩
    · rw [List.map_map]
      refine List.map_congr_left fun p _ => ?_
      simp only [Function.comp]
      split <;> rfl
    · clear ea h
      induction kvs generalizing ds with
      | nil => cases ds with
        | nil => simp [Rps]
        | cons _ _ => simp [Rps] at r
      | cons p kvs ih => cases ds with
        | nil => simp [Rps] at r
        | cons d' ds =>
          simp only [List.map_cons, Rps, List.zipWith_cons_cons, hf] at r ⊢
          refine ⟨?_, ih r.2⟩
          by_cases e : p.1 = k
          · rw [if_pos e, if_pos (decide_eq_true e)]; exact rv
          · rw [if_neg e, if_neg (by simp [e])]; exact r.1
  · rw [if_neg h, if_neg h, if_neg h, List.map_append, List.map_append]
    exact ⟨rfl, r.append (Rps.one rv)⟩
theorem putK_mem {κ : Type} [DecidableEq κ] {kvs : List (κ × V)} {k : κ} {v : V} {p : κ × V} (h : p ∈ putK kvs k v) : p.1 = k ∨ ∃ q ∈ kvs, q.1 = p.1 := by
  unfold putK at h
  split at h
  · obtain ⟨q, hq, e⟩ := List.mem_map.mp h
    refine .inr ⟨q, hq, ?_⟩
    rw [← e]
    split <;> rfl
  · rcases List.mem_append.mp h with h | h
    · exact .inr ⟨p, h, rfl⟩
    · rw [List.mem_singleton] at h; subst h; exact .inl rfl
/-- a key, as it stands -/
theorem key_K {K : PySem.W.Frag} {H0 H : Hp} {P : Addr → Prop} {u : V} {k : R} {kk : D} (hu : RR K H0 H P u k) (ek : dKey false k = some kk) : ∃ key, kk = kD key ∧ u = kV key ∧ ∀ x, key = .inr x → strOk x = true := by
  unfold dKey at ek
  simp only at ek
  split at ek
  · next hs =>
    cases ek
    obtain ⟨key, hk⟩ := Option.isSome_iff_exists.mp hs
    have ekk := keyD_some hk
    have hu' := hu.sc (by rw [ekk]; cases key <;> rfl)
    rw [ekk] at hu' ⊢
    refine ⟨key, rfl, ?_⟩
    cases key with
    | inl i => simp only [kD, Rp] at hu'; exact ⟨hu', fun x z => by cases z⟩
    | inr x => simp only [kD, Rp] at hu'; exact ⟨hu'.1, fun y z => by cases z; exact hu'.2⟩
  · cases ek
theorem key_T {K : PySem.W.Frag} {H0 H : Hp} {P : Addr → Prop} {u : V} {k : R} {kk : D} (hu : RR K H0 H P u k) (ek : dKey true k = some kk) : ∃ key b, kk = ksD key ∧ u = .ref b ∧ H b = some (.tup (key.map kV)) ∧ ∀ x, Sum.inr x ∈ key → strOk x = true := by
  unfold dKey at ek
  simp only at ek
  split at ek
  · next es =>
    split at ek
    · next hs =>
      cases ek
      obtain ⟨key, hk⟩ := Option.isSome_iff_exists.mp hs
      have ekk := keysD_some hk
      have hu' : Rp H P u (.tup es) := hu
      simp only [Rp] at hu'
      obtain ⟨b, vs, rfl, _, hb, hr⟩ := hu'
      have ev : vs = key.map kV ∧ ∀ x, Sum.inr x ∈ key → strOk x = true := by
        rw [ekk] at hr
        clear ekk hk hs hb hu
        induction key generalizing vs with
        | nil => cases vs with
          | nil => exact ⟨rfl, fun x z => by cases z⟩
          | cons _ _ => simp [Rps] at hr
        | cons k r ih => cases vs with
          | nil => simp [Rps] at hr
          | cons v vs =>
            simp only [List.map_cons, Rps] at hr
            obtain ⟨i1, i2⟩ := ih vs hr.2
            cases k with
            | inl i =>
              have h1 := hr.1
              simp only [kD, Rp] at h1
              refine ⟨by rw [List.map_cons, ← i1, h1]; rfl, fun x z => ?_⟩
              rcases List.mem_cons.mp z with z | z
              · cases z
              · exact i2 x z
            | inr y =>
              have h1 := hr.1
              simp only [kD, Rp] at h1
              refine ⟨by rw [List.map_cons, ← i1, h1.1]; rfl, fun x z => ?_⟩
              rcases List.mem_cons.mp z with z | z
              · cases z; exact h1.2
              · exact i2 x z
      exact ⟨key, b, by rw [ekk]; rfl, rfl, by rw [hb, ev.1], ev.2⟩
    · cases ek
  · cases ek
def eDct0 (tk : Bool) (_ : Env) : Res R := .ok (.own (.dct tk [] []))
def sDput (j : Nat) (mk mv : Env → Res R) (ρ : Env) : Out := onO j ρ fun d => match d with
  | .dct tk ks ds => oB (mv ρ) ρ fun rv => oB (mk ρ) ρ fun rk => (match dKey tk rk, rv.froz with
    | some kk, some dd => if ds.length < LIM then .nx (ρ.set j (some (.own (.dct tk (dctPutK ks kk) (dctPutV ks ds kk dd))))) else .stuck
    | _, _ => .stuck)
  | _ => .stuck
section
variable {X : Cx} {C : Cn} {W : WX} {io : List Nat} {pos pos' px : Pos} {x : Str} {i value : Expr} {mk mv : Env → Res R} {j : Nat}
theorem pe_dct0M (tk : Bool) : PE X (.Dict [] [] pos) (tM C W (eDct0 tk)) := by
  cases tk with
  | false =>
    refine PE.weak pe_dnewK fun σ H Q ⟨ρ, c, S, sr, h⟩ p hp => h (.ref p) _ (Ex.new hp) ⟨p, rfl, hp, fun z => ?_, [], upd_same, rfl, (fun _ z => (by cases z)), (by simp [Rps])⟩
    obtain ⟨o, q⟩ := sr.trk p z
    rw [hp] at q; cases q
  | true =>
    refine PE.weak pe_dnewT fun σ H Q ⟨ρ, c, S, sr, h⟩ p hp => h (.ref p) _ (Ex.new hp) ⟨p, rfl, hp, fun z => ?_, [], upd_same, rfl, (fun _ z => (by cases z)), (by simp [Rps])⟩
    obtain ⟨o, q⟩ := sr.trk p z
    rw [hp] at q; cases q
theorem ps_dputM (hu : X.A.units + 200 < cLine) (hN : X.N[j]? = some x) (hv : Vis X.env.scope x) (hd : (x == ("__debug__" : Str)) = false) (hcd : (x == ("__classdict__" : Str)) = false) (hi : PE X i (tM C W mk)) (hval : PE X value (tM C W mv)) (hc : noComp value = true) :
    PS X (.Assign [.Subscript (.Name x px) i pos'] value pos) (tS C W io (sDput j mk mv)) :=
  PS.weak (ps_dput (by omega) (pe_var hN hv hd hcd) hi hval (swaps_no hc)) fun E σ H ⟨ρ, c, S, sr, h⟩ => by
    unfold sDput onO at h
    split at h
    · next d e0 =>
      dsimp only at h
      split at h
      · next tk ks ds =>
        refine ⟨ρ, c, S, sr, (SW.rw sr h).imp fun v H1 ⟨rv, x1, r1, h1⟩ => ?_⟩
        obtain ⟨v0, hs, a, rfl, hcell, hc0⟩ := sr.rep j _ e0
        refine ⟨.ref a, hs, ρ, c, S, sr.ex x1, (SW.rw (sr.ex x1) h1).imp fun u H2 ⟨rk, x2, r2, h2⟩ => ?_⟩
        have sr2 := (sr.ex x1).ex x2
        have P : Mp.Own c S a := .inl ⟨j, by rw [hcell]; simp⟩
        have hc2 := (hc0.ex x1).ex x2
        split at h2
        · next kk dd ek ed =>
          split at h2
          · next hz =>
            have rd := (r1.mono (Ex.refl _) x2).froz ed
            have h3 := h2
            cases tk with
            | false =>
              obtain ⟨kvs, hH, rfl, hok, hr⟩ := hc2
              obtain ⟨key, rfl, rfl, hk⟩ := key_K r2 ek
              obtain ⟨p1, p2⟩ := put_rel keq_kD key rd hr
              have hz' : kvs.length < sizeLine := by have := hr.length; rw [List.length_map] at this; rw [this]; exact lim_lt hz
              obtain ⟨s1, s2⟩ := sr2.upd (io := io) (a := a) (o := .dK (putK kvs key v)) (d' := .dct false (dctPutK (kvs.map fun p => kD p.1) (kD key)) (dctPutV (kvs.map fun p => kD p.1) ds (kD key) dd)) e0 hs
                ⟨putK kvs key v, upd_same, p1.symm, (fun p hp y hy => by
                  rcases putK_mem hp with e | ⟨q, hq, e⟩
                  · exact hk y (e ▸ hy)
                  · exact hok q hq y (e.trans hy)), p2.upd P⟩
              exact ⟨a, _, rfl, DPut.k hH hz', h3.nx s1 s2⟩
            | true =>
              obtain ⟨kvs, hH, rfl, hok, hr⟩ := hc2
              obtain ⟨key, b, rfl, rfl, hb, hk⟩ := key_T r2 ek
              obtain ⟨p1, p2⟩ := put_rel keq_ksD key rd hr
              have hz' : kvs.length < sizeLine := by have := hr.length; rw [List.length_map] at this; rw [this]; exact lim_lt hz
              obtain ⟨s1, s2⟩ := sr2.upd (io := io) (a := a) (o := .dT (putK kvs key v)) (d' := .dct true (dctPutK (kvs.map fun p => ksD p.1) (ksD key)) (dctPutV (kvs.map fun p => ksD p.1) ds (ksD key) dd)) e0 hs
                ⟨putK kvs key v, upd_same, p1.symm, (fun p hp y hy => by
                  rcases putK_mem hp with e | ⟨q, hq, e⟩
                  · exact hk y (e ▸ hy)
                  · exact hok q hq y (by rw [e]; exact hy)), p2.upd P⟩
              exact ⟨a, _, rfl, DPut.t hH hb hz', h3.nx s1 s2⟩
          · exact h2.elim
        · exact h2.elim
      · exact h.elim
    · exact h.elim
end
/-! ### in a dict, get -/
def opDin (neg : Bool) (x y : R) : Res R := match y.d with
  | .dct tk ks ds => (match dKey tk x with
    | some k => .ok (.val (.bl (if neg then !(dctGet ks ds k).isSome else (dctGet ks ds k).isSome)))
    | none => .stuck)
  | _ => .stuck
def opAnyIn (neg : Bool) (x y : R) : Res R := if isDct y.d then opDin neg x y else opCmp (if neg then .NotIn else .In) x y
def eDin (neg : Bool) (ma mb : Env → Res R) (ρ : Env) : Res R := (ma ρ).bind fun x => (mb ρ).bind fun y => opAnyIn neg x y
section
variable {X : Cx} {C : Cn} {W : WX} {pos apos : Pos} {a b o e : Expr} {ma mb mo m : Env → Res R}
theorem din_ok {P : Addr → Prop} {σ : L2.St} {Ha Hb H : Hp} {Q : VK} {v u : V} {x y : R} {neg : Bool} (rv : RR C.K Ha H P v x) (ru : RR C.K Hb H P u y) (h : RW C W P σ H (opDin neg x y) Q) :
    ∃ p o, u = .ref p ∧ DGet H p v o ∧ Q (.bl (if neg then !o.isSome else o.isSome)) H := by
  unfold opDin at h
  split at h
  · next tk ks ds e =>
    split at h
    · next k ek =>
      obtain ⟨p, o, hv, hg, hr⟩ := look_ok (ru.mono (H0' := fun _ => none) (fun _ _ z => nomatch z) (Ex.refl _)) e (rv.mono (H0' := fun _ => none) (fun _ _ z => nomatch z) (Ex.refl _)) ek
      refine ⟨p, o, hv, hg, ?_⟩
      rw [hr.isSome]
      exact h _ H (Ex.refl _) rr_bl
    · exact h.elim
  · exact h.elim
def eDinD (neg : Bool) (ma mb : Env → Res R) (ρ : Env) : Res R := (ma ρ).bind fun x => (mb ρ).bind fun y => opDin neg x y
theorem din_two (neg : Bool) (ma mb : Env → Res R) (ρ : Env) : eDin neg ma mb ρ = eDinD neg ma mb ρ ∨ eDin neg ma mb ρ = eCmp (if neg then .NotIn else .In) ma mb ρ := by
  unfold eDin eDinD eCmp
  cases ma ρ with
  | ok x =>
    cases mb ρ with
    | ok y =>
      simp only [Res.bind_ok, opAnyIn]
      by_cases h : isDct y.d = true
      · rw [if_pos h]; exact .inl rfl
      · rw [if_neg h]; exact .inr rfl
    | exc _ _ => exact .inl rfl
    | stuck => exact .inl rfl
  | exc _ _ => exact .inl rfl
  | stuck => exact .inl rfl
theorem PT.or {t t' : TT} (h : PT X e t) (h' : PT X e t') : PT X e (fun σ H Q => t σ H Q ∨ t' σ H Q) := ⟨fun pins s σ H Q I q => q.elim (h.run pins s σ H Q I) (h'.run pins s σ H Q I)⟩
theorem pe_two {m1 m2 m3 : Env → Res R} (h : ∀ ρ, m3 ρ = m1 ρ ∨ m3 ρ = m2 ρ) (h1 : PE X e (tM C W m1)) (h2 : PE X e (tM C W m2)) : PE X e (tM C W m3) :=
  PE.weak (PE.or h1 h2) fun σ H Q ⟨ρ, c, S, sr, q⟩ => (h ρ).elim (fun z => .inl ⟨ρ, c, S, sr, by rw [← z]; exact q⟩) (fun z => .inr ⟨ρ, c, S, sr, by rw [← z]; exact q⟩)
theorem pt_two {m1 m2 m3 : Env → Res R} (h : ∀ ρ, m3 ρ = m1 ρ ∨ m3 ρ = m2 ρ) (h1 : PT X e (tMt C W m1)) (h2 : PT X e (tMt C W m2)) : PT X e (tMt C W m3) :=
  PT.weak (PT.or h1 h2) fun σ H Q ⟨ρ, c, S, sr, q⟩ => (h ρ).elim (fun z => .inl ⟨ρ, c, S, sr, by rw [← z]; exact q⟩) (fun z => .inr ⟨ρ, c, S, sr, by rw [← z]; exact q⟩)
theorem pe_dinD (hu : X.A.units + 200 < cLine) (ha : PE X a (tM C W ma)) (hb : PE X b (tM C W mb)) (hm : behindInMarks .In b = false) : PE X (.Compare a [.In] [b] pos) (tM C W (eDinD false ma mb)) :=
  PE.weak (pe_cmp (pc_din (by omega) ha hb) hm) fun σ H Q ⟨ρ, c, S, sr, h⟩ => ⟨ρ, c, S, sr, (RW.bind h).imp fun v H1 ⟨x, e1, rx, h1⟩ => ⟨ρ, c, S, sr.ex e1, (RW.bind h1).imp fun u H2 ⟨y, e2, ry, h2⟩ => din_ok (rx.mono (Ex.refl _) e2) ry h2⟩⟩
theorem pe_dninD (hu : X.A.units + 200 < cLine) (ha : PE X a (tM C W ma)) (hb : PE X b (tM C W mb)) (hm : behindInMarks .NotIn b = false) : PE X (.Compare a [.NotIn] [b] pos) (tM C W (eDinD true ma mb)) :=
  PE.weak (pe_cmp (pc_dnotin (by omega) ha hb) hm) fun σ H Q ⟨ρ, c, S, sr, h⟩ => ⟨ρ, c, S, sr, (RW.bind h).imp fun v H1 ⟨x, e1, rx, h1⟩ => ⟨ρ, c, S, sr.ex e1, (RW.bind h1).imp fun u H2 ⟨y, e2, ry, h2⟩ => din_ok (rx.mono (Ex.refl _) e2) ry h2⟩⟩
theorem pt_dinD (hu : X.A.units + 200 < cLine) (ha : PE X a (tM C W ma)) (hb : PE X b (tM C W mb)) (hm : behindInMarks .In b = false) : PT X (.Compare a [.In] [b] pos) (tMt C W (eDinD false ma mb)) :=
  PT.weak (pt_cmp (pc_din (by omega) ha hb) hm) fun σ H Q ⟨ρ, c, S, sr, h⟩ => ⟨ρ, c, S, sr, (RW.bind h).imp fun v H1 ⟨x, e1, rx, h1⟩ => ⟨ρ, c, S, sr.ex e1, (RW.bind h1).imp fun u H2 ⟨y, e2, ry, h2⟩ => din_ok (rx.mono (Ex.refl _) e2) ry h2⟩⟩
theorem pt_dninD (hu : X.A.units + 200 < cLine) (ha : PE X a (tM C W ma)) (hb : PE X b (tM C W mb)) (hm : behindInMarks .NotIn b = false) : PT X (.Compare a [.NotIn] [b] pos) (tMt C W (eDinD true ma mb)) :=
  PT.weak (pt_cmp (pc_dnotin (by omega) ha hb) hm) fun σ H Q ⟨ρ, c, S, sr, h⟩ => ⟨ρ, c, S, sr, (RW.bind h).imp fun v H1 ⟨x, e1, rx, h1⟩ => ⟨ρ, c, S, sr.ex e1, (RW.bind h1).imp fun u H2 ⟨y, e2, ry, h2⟩ => din_ok (rx.mono (Ex.refl _) e2) ry h2⟩⟩
theorem pe_dinM (hK : X.K = C.K) (hu : X.A.units + 200 < cLine) (ha : PE X a (tM C W ma)) (hb : PE X b (tM C W mb)) (hm : behindInMarks .In b = false) : PE X (.Compare a [.In] [b] pos) (tM C W (eDin false ma mb)) :=
  pe_two (din_two false ma mb) (pe_dinD hu ha hb hm) (pe_cmpM hK hu ha hb hm)
theorem pt_dinM (hK : X.K = C.K) (hu : X.A.units + 200 < cLine) (ha : PE X a (tM C W ma)) (hb : PE X b (tM C W mb)) (hm : behindInMarks .In b = false) : PT X (.Compare a [.In] [b] pos) (tMt C W (eDin false ma mb)) :=
  pt_two (din_two false ma mb) (pt_dinD hu ha hb hm) (pt_cmpM hK hu ha hb hm)
theorem pe_dninM (hK : X.K = C.K) (hu : X.A.units + 200 < cLine) (ha : PE X a (tM C W ma)) (hb : PE X b (tM C W mb)) (hm : behindInMarks .NotIn b = false) : PE X (.Compare a [.NotIn] [b] pos) (tM C W (eDin true ma mb)) :=
  pe_two (din_two true ma mb) (pe_dninD hu ha hb hm) (pe_cmpM hK hu ha hb hm)
theorem pt_dninM (hK : X.K = C.K) (hu : X.A.units + 200 < cLine) (ha : PE X a (tM C W ma)) (hb : PE X b (tM C W mb)) (hm : behindInMarks .NotIn b = false) : PT X (.Compare a [.NotIn] [b] pos) (tMt C W (eDin true ma mb)) :=
  pt_two (din_two true ma mb) (pt_dninD hu ha hb hm) (pt_cmpM hK hu ha hb hm)
theorem pe_get1M (hu : X.A.units + 200 < cLine) (ho : PE X o (tM C W mo)) (he : PE X e (tM C W m)) (hb : plainBase o = true) (hst : noStar e = true) (hl : (apos.endLine == pos.line) = true) :
    PE X (.Call (.Attribute o "get" apos) [e] [] pos) (tM C W (eGet1 mo m)) := by
  refine PE.weak (pe_dget1 (by omega) ho he (m1_of hb hst hl)) fun σ H Q ⟨ρ, c, S, sr, h⟩ => ⟨ρ, c, S, sr, (RW.bind h).imp fun v H1 ⟨x, x1, r1, q1⟩ => ?_⟩
  split at q1
  · next hd =>
    obtain ⟨a, rfl, ha⟩ := r1.isD hd
    refine ⟨a, rfl, ha, ρ, c, S, sr.ex x1, (RW.bind q1).imp fun u H2 ⟨y, x2, r2, q2⟩ => ?_⟩
    obtain ⟨a', o', ea, hg, hq⟩ := get2_ok (Ex.refl _) (r1.mono (Ex.refl _) x2) r2 (show RR _ _ _ _ .non (.val .non) from (by simp [RR, Rp])) q2
    cases ea
    exact ⟨o', hg, hq⟩
  · exact q1.elim
end
end Mp

namespace Mp
open PySem L2

/-! ### the words of a text -/
inductive Bt where
  | len | str | int | list | tuple | all | any | sum | min | max
def Bt.nm : Bt → Str
  | .len => "len" | .str => "str" | .int => "int" | .list => "list" | .tuple => "tuple" | .all => "all" | .any => "any" | .sum => "sum" | .min => "min" | .max => "max"
def Bt.easy : Bt → Bool
  | .len => true | .str => true | .int => true | .list => true | .tuple => true | _ => false
def Bt.fn : Bt → List R → Res R
  | .len => bLen | .str => bStr | .int => bInt | .list => bList | .tuple => bTuple | .all => bAll | .any => bAny | .sum => bSum | .min => bMin | .max => bMax
inductive Ty where
  | str | int | bool | list | tuple | dict
def Ty.T : Ty → String
  | .str => "str" | .int => "int" | .bool => "bool" | .list => "list" | .tuple => "tuple" | .dict => "dict"
def Ty.nm : Ty → Str
  | .str => "str" | .int => "int" | .bool => "bool" | .list => "list" | .tuple => "tuple" | .dict => "dict"
inductive Xp where
  | var (i : Nat) | cst (d : D) | glo (x : Str)
  | tup (es : List Xp) | lst (es : List Xp)
  | and (a b : Xp) | or (a b : Xp) | not (a : Xp) | neg (a : Xp)
  | bin (op : Operator) (a b : Xp) | cmp (op : CmpOp) (a b : Xp) | chn (op op' : CmpOp) (a b c : Xp)
  | ite (c a b : Xp) | ix (a b : Xp) | sl (a : Xp) (lo hi : List Xp)
  | blt (b : Bt) (es : List Xp) | isi (a : Xp) (T : Ty) | join (a b : Xp) | get2 (a b c : Xp)
  | call (f : Nat) (es : List Xp) | rng (es : List Xp)
  | lc (elt : Xp) (t : Tg) (src : Xp) (tt : List Xp)
  | dct0 (tk : Bool) | din (neg : Bool) (a b : Xp) | get1 (a b : Xp)
/-- what its names mean -/
structure G where
  runO : Nat → List R → Out
  glo : List (Str × R)
  sub : Nat → Nat → Option Bool
def Out.fin : Out → Res R
  | .nx _ => .ok (.val .non)
  | .rt r _ => .ok r
  | .ex c pl _ => .exc c pl
  | _ => .stuck
def G.run (g : G) (f : Nat) (rs : List R) : Res R := (g.runO f rs).fin
def eGlo (g : G) (x : Str) (_ : Env) : Res R := match g.glo.lookup x with
  | some r => .ok r
  | none => .stuck
def eRngV (ms : List (Env → Res R)) (ρ : Env) : Res R := match eRng ms ρ with
  | .ok ds => .ok (.val (.lst ds))
  | .exc c pl => .exc c pl
  | .stuck => .stuck
mutual
def den (g : G) : Xp → Env → Res R
  | .var i => eVar i
  | .cst d => fun _ => ofD d
  | .glo x => eGlo g x
  | .tup es => eTup (dens g es)
  | .lst es => eLst (dens g es)
  | .and a b => eAnd (den g a) (den g b)
  | .or a b => eOr (den g a) (den g b)
  | .not a => eNot (den g a)
  | .neg a => eNeg (den g a)
  | .bin op a b => eBin op (den g a) (den g b)
  | .cmp op a b => eCmp op (den g a) (den g b)
  | .chn op op' a b c => eChain op op' (den g a) (den g b) (den g c)
  | .ite c a b => eIte (den g c) (den g a) (den g b)
  | .ix a b => eIx (den g a) (den g b)
  | .sl a lo hi => eSl (den g a) (dens g lo).head? (dens g hi).head?
  | .blt b es => eBlt b.fn (dens g es)
  | .isi a T => eIsi T.T (den g a)
  | .join a b => eJoin (den g a) (den g b)
  | .get2 a b c => eGet2 (den g a) (den g b) (den g c)
  | .call f es => eCall (g.run f) (dens g es)
  | .rng es => eRngV (dens g es)
  | .lc elt t src tt => eLc t (eSeq (den g src)) (dens g tt).head? (den g elt)
  | .dct0 tk => eDct0 tk
  | .din neg a b => eDin neg (den g a) (den g b)
  | .get1 a b => eGet1 (den g a) (den g b)
def dens (g : G) : List Xp → List (Env → Res R)
  | [] => []
  | m :: ms => den g m :: dens g ms
end
theorem dens_len (g : G) : ∀ ms, (dens g ms).length = ms.length
  | [] => rfl
  | _ :: ms => by rw [dens, List.length_cons, List.length_cons, dens_len g ms]

/-! ### the text is of these words -/
structure Ck where
  N : List Str
  sc : Scope
  fn : Str → Bool
  fs : List (Str × (Nat × Nat))
  os : List (Str × (Nat × Nat × Nat))
  bs : List Str
  xs : List (Str × Nat)
  calm : Bool
/-- as a value, as a test, as what is walked -/
inductive Md where
  | v | t | s
def visOk (sc : Scope) (x : Str) : Bool := match sc.names.lookup x with
  | some .local => true
  | some .cell => true
  | some .free => true
  | _ => false
def gloOk (sc : Scope) (x : Str) : Bool := match sc.names.lookup x with
  | some .globalImplicit => true
  | _ => false
def okName (x : Str) : Bool := !(x == ("__debug__" : Str)) && !(x == ("__classdict__" : Str))
def pl : Md → Expr → Bool
  | .t, e => plainTest e
  | _, _ => true
def chkC : Const → D → Bool
  | .none, .non => true
  | .bool b, .bl c => b == c
  | .int i, .int j => decide (i = j)
  | .str x, .str y => decide (x = y) && strOk y
  | _, _ => false
def notS : Md → Bool
  | .s => false
  | _ => true
def isS : Md → Bool
  | .s => true
  | _ => false
def ownOf (N : List Str) (is : List Nat) : List (Str × Nat) := is.map fun i => ((N[i]?).getD "", i)
def Ck.blk (k : Ck) (scope : Scope) : Ck := { k with sc := relS scope k.sc, fn := fun x => scope.names.lookup x == some .cell }
mutual
def chk : Xp → Md → Ck → Expr → Bool
  | .var i, t, k, e => pl t e && (match e with
    | .Name x _ => decide (k.N[i]? = some x) && (visOk k.sc x && okName x)
    | _ => false)
  | .cst d, t, k, e => pl t e && (match e with
    | .Constant c _ _ => chkC c d
    | _ => false)
  | .glo y, t, k, e => pl t e && (match e with
    | .Name x _ => decide (x = y) && (gloOk k.sc x && okName x)
    | _ => false)
  | .tup es, t, k, e => pl t e && (match e with
    | .Tuple xs _ _ => xs.all noStar && chks es k xs
    | _ => false)
  | .lst es, t, k, e => pl t e && (match e with
    | .List xs _ => xs.all noStar && chks es k xs
    | _ => false)
  | .and a b, t, k, e => notS t && (match e with
    | .BoolOp .And (x :: y :: r) p => chk a t k x && (match r with
      | [] => chk b t k y
      | z :: r => chk b t k (.BoolOp .And (y :: z :: r) p))
    | _ => false)
  | .or a b, t, k, e => notS t && (match e with
    | .BoolOp .Or (x :: y :: r) p => chk a t k x && (match r with
      | [] => chk b t k y
      | z :: r => chk b t k (.BoolOp .Or (y :: z :: r) p))
    | _ => false)
  | .not a, t, k, e => notS t && (match e with
    | .UnaryOp .Not x _ => chk a t k x
    | _ => false)
  | .neg a, t, k, e => pl t e && (match e with
    | .UnaryOp .USub x _ => chk a .v k x
    | _ => false)
  | .bin op a b, t, k, e => pl t e && (match e with
    | .BinOp x o y _ => decide (o = op) && (chk a .v k x && chk b .v k y)
    | _ => false)
  | .cmp op a b, t, k, e => notS t && (match e with
    | .Compare x [o] [y] _ => decide (o = op) && (!behindInMarks op y && (chk a .v k x && chk b .v k y))
    | _ => false)
  | .chn op op' a b c, t, k, e => pl t e && (match e with
    | .Compare x [o, o'] [y, z] _ => decide (o = op) && (decide (o' = op') && (!lastMarks [op, op'] [y, z] && (chk a .v k x && (chk b .v k y && chk c .v k z))))
    | _ => false)
  | .ite c a b, t, k, e => pl t e && (match e with
    | .IfExp x y z _ => chk c .t k x && (chk a .v k y && chk b .v k z)
    | _ => false)
  | .ix a b, t, k, e => pl t e && (match e with
    | .Subscript x y _ => noSlice y && (chk a .v k x && chk b .v k y)
    | _ => false)
  | .sl a lo hi, t, k, e => pl t e && (match e with
    | .Subscript x (.Slice l h none _) _ => chk a .v k x && (chko lo k l && chko hi k h)
    | _ => false)
  | .blt b es, t, k, e => pl t e && (match e with
    | .Call (.Name x _) (y :: ys) [] _ => decide (x = b.nm) && (gloOk k.sc x && (k.bs.contains x && ((b.easy || k.calm) && ((y :: ys).all noStar && chks es k (y :: ys)))))
    | _ => false)
  | .isi a T, t, k, e => pl t e && (match e with
    | .Call (.Name x _) [y, .Name z _] [] _ => decide (x = ("isinstance" : Str)) && (decide (z = T.nm) && (gloOk k.sc x && (gloOk k.sc z && (k.bs.contains x && (k.bs.contains z && (noStar y && chk a .v k y))))))
    | _ => false)
  | .join a b, t, k, e => pl t e && (match e with
    | .Call (.Attribute o f ap) [y] [] cp => decide (f = ("join" : Str)) && (noStar y && (plainBase o && ((ap.endLine == cp.line) && (chk a .v k o && chk b .v k y))))
    | _ => false)
  | .get2 a b c, t, k, e => pl t e && (match e with
    | .Call (.Attribute o f ap) [y, z] [] cp => decide (f = ("get" : Str)) && (noStar y && (noStar z && (plainBase o && ((ap.endLine == cp.line) && (chk a .v k o && (chk b .v k y && chk c .v k z))))))
    | _ => false)
  | .call f es, t, k, e => pl t e && (match e with
    | .Call (.Name x _) (y :: ys) [] _ => decide (k.fs.lookup x = some (f, es.length)) && (gloOk k.sc x && (okName x && ((y :: ys).all noStar && chks es k (y :: ys))))
    | _ => false)
  | .rng es, t, k, e => isS t && (match e with
    | .Call (.Name x _) ys [] _ => decide (x = ("range" : Str)) && (gloOk k.sc x && (k.bs.contains x && ((ys.length == 1 || ys.length == 2) && (ys.all noStar && chks es k ys))))
    | _ => false)
  | .lc elt g src tt, t, k, e => pl t e && (match e with
    | .ListComp x [⟨tg, it, ifs, a⟩] sc _ => decide (a = 0) && k.calm && (chkTg k.N (k.blk sc).sc (k.blk sc).fn tg g && (blkC k.N k.sc sc (ownOf k.N g.slots) && (plainIter it && (chk src .s k it && (chkt tt (k.blk sc) ifs && chk elt .v (k.blk sc) x)))))
    | _ => false)
  | .dct0 _, t, k, e => pl t e && (match e with
    | .Dict [] [] _ => true
    | _ => false)
  | .din neg a b, t, k, e => notS t && (match e with
    | .Compare x [.In] [y] _ => !neg && (!behindInMarks .In y && (chk a .v k x && chk b .v k y))
    | .Compare x [.NotIn] [y] _ => neg && (!behindInMarks .NotIn y && (chk a .v k x && chk b .v k y))
    | _ => false)
  | .get1 a b, t, k, e => pl t e && (match e with
    | .Call (.Attribute o f ap) [y] [] cp => decide (f = ("get" : Str)) && (noStar y && (plainBase o && ((ap.endLine == cp.line) && (chk a .v k o && chk b .v k y))))
    | _ => false)
def chks : List Xp → Ck → List Expr → Bool
  | [], _, es => es.isEmpty
  | m :: ms, k, es => (match es with
    | e :: es => chk m .v k e && chks ms k es
    | [] => false)
/-- a part that may be left out -/
def chko : List Xp → Ck → Option Expr → Bool
  | [], _, o => o.isNone
  | m :: ms, k, o => (match o with
    | some e => ms.isEmpty && chk m .v k e
    | none => false)
/-- a comprehension's test -/
def chkt : List Xp → Ck → List Expr → Bool
  | [], _, es => es.isEmpty
  | m :: ms, k, es => (match es with
    | [e] => ms.isEmpty && chk m .t k e
    | _ => false)
end

/-! ### what is given around a def's body -/
structure Gd (X : Cx) (C : Cn) (W : WX) (k : Ck) (g : G) : Prop where
  hK : X.K = C.K
  hN : X.N = k.N
  nd : X.N.Nodup
  sc : X.env.scope = k.sc
  fn : X.fn = k.fn
  calm : k.calm = true → X.calm = true
  un : X.A.units + 200 < cLine
  tk : Takes X W
  bs : ∀ x, k.bs.contains x = true → X.mg x = none
  fs : ∀ x f n, k.fs.lookup x = some (f, n) → CallOk X C n (g.run f) x
  os : ∀ x f n p, k.os.lookup x = some (f, n, p) → CallOkO X C n p (g.runO f) x
  xc : ∀ x j, k.xs.lookup x = some j → ExcAt X x (C.ca j)
  xm : ∀ i j b, g.sub i j = some b → PySem.W.exmOne X.K (.ref (C.ca i)) (.ref (C.ca j)) = some b
  gl : ∀ x r, g.glo.lookup x = some r → ∃ v u, X.mg x = some u ∧ RelV v u ∧ ∀ H0 H P, RR C.K H0 H P v r
theorem Gd.blk {X : Cx} {C : Cn} {W : WX} {k : Ck} {g : G} (h : Gd X C W k g) (s : Shared) (H : Hp) (scope : Scope) (C' : Addr) (cl : List (Str × Addr)) (fp : List Addr) : Gd (X.blk s H scope (compEnvC scope cl C' X.env) fp) C WN (k.blk scope) g where
  hK := h.hK
  hN := h.hN
  nd := h.nd
  sc := by show relS scope X.env.scope = relS scope k.sc; rw [h.sc]
  fn := rfl
  calm := h.calm
  un := h.un
  tk := takes0
  bs := h.bs
  fs := h.fs
  os := h.os
  xc := fun x j e => let z := h.xc x j e; ⟨z.mg, z.kp, z.sub, z.ty, z.ex⟩
  xm := h.xm
  gl := h.gl
theorem vis_of {sc : Scope} {x : Str} (h : visOk sc x = true) : Vis sc x := by
  unfold visOk at h
  unfold Vis
  split at h
  · next e => exact .inl e
  · next e => exact .inr (.inl e)
  · next e => exact .inr (.inr e)
  · cases h
theorem glo_of {X : Cx} {x : Str} (h : gloOk X.env.scope x = true) : Gl X x := by
  unfold gloOk at h
  split at h
  · next e => exact e
  · cases h
theorem okName_of {x : Str} (h : okName x = true) : (x == ("__debug__" : Str)) = false ∧ (x == ("__classdict__" : Str)) = false := by
  unfold okName at h
  simp only [Bool.and_eq_true, Bool.not_eq_true'] at h
  exact h
section
variable {X : Cx} {C : Cn} {W : WX} {k : Ck} {g : G}
theorem pe_cst {c : Const} {d : D} {j : Nat} {p : Pos} (h : chkC c d = true) : PE X (.Constant c j p) (tM C W fun _ => ofD d) := by
  unfold chkC at h
  split at h
  · exact pe_sc pe_non fun _ _ => by simp [Rp]
  · have e := eq_of_beq h; subst e; exact pe_sc pe_bl fun _ _ => by simp [Rp]
  · have e := of_decide_eq_true h; subst e; exact pe_sc pe_int fun _ _ => by simp [Rp]
  · rw [Bool.and_eq_true] at h
    have e := of_decide_eq_true h.1
    subst e
    exact pe_sc pe_str fun _ _ => rp_str h.2
  · cases h
theorem pe_gloM {x : Str} {p : Pos} (gd : Gd X C W k g) (hg : Gl X x) (hd : (x == ("__debug__" : Str)) = false) : PE X (.Name x p) (tM C W (eGlo g x)) := by
  cases e : g.glo.lookup x with
  | none =>
    refine PE.weak (t := tM C W fun _ => .stuck) pe_stuck fun σ H Q ⟨ρ, c, S, sr, q⟩ => ?_
    unfold eGlo at q
    rw [e] at q
    exact q.elim
  | some r =>
    obtain ⟨v, u, h1, h2, h3⟩ := gd.gl x r e
    refine PE.weak (pe_glob hg h1 h2 hd) fun σ H Q ⟨ρ, c, S, sr, q⟩ => ?_
    unfold eGlo at q
    rw [e] at q
    exact q v H (Ex.refl _) (h3 _ _ _)
theorem pe_btM (gd : Gd X C W k g) (b : Bt) (hcb : b.easy = true ∨ X.calm = true) {e : Expr} {es : List Expr} {ms : List (Env → Res R)} {p pos : Pos} (hg : Gl X b.nm) (hm : X.mg b.nm = none) (ha : PA X (e :: es) (tMs C W (eArgs ms))) (hst : (e :: es).all noStar = true) :
    PE X (.Call (.Name b.nm p) (e :: es) [] pos) (tM C W (eBlt b.fn ms)) := by
  have hK := gd.hK
  have hc : ∀ {p : Bool}, p = b.easy → p = false → X.calm = true := fun e1 e2 => hcb.elim (fun z => by rw [← e1, e2] at z; cases z) id
  cases b with
  | len => exact pe_bltM call_lenX (by rw [hK]; exact gv_len) hg hm (by decide +kernel) ha (by decide) (by decide) hst
  | str => exact pe_tyM call_str_int gv_str hg hm (by decide +kernel) ha (by decide) (by decide) hst
  | int => exact pe_tyM (call_int1.or call_int_str) gv_int hg hm (by decide +kernel) ha (by decide) (by decide) hst
  | list => exact pe_tyM call_list_of (by rw [hK]; exact gv_list) hg hm (by decide +kernel) ha (by decide) (by decide) hst
  | tuple => exact pe_tyM call_tuple_of (by rw [hK]; exact gv_tuple) hg hm (by decide +kernel) ha (by decide) (by decide) hst
  | all => exact pe_bltM (cr_all (hc rfl rfl)) (by rw [hK]; exact gv_all) hg hm (by decide +kernel) ha (by decide) (by decide) hst
  | any => exact pe_bltM (cr_any (hc rfl rfl)) (by rw [hK]; exact gv_any) hg hm (by decide +kernel) ha (by decide) (by decide) hst
  | sum => exact pe_bltM (cr_sum (hc rfl rfl)) (by rw [hK]; exact gv_sum) hg hm (by decide +kernel) ha (by decide) (by decide) hst
  | min => exact pe_bltM (call_min2 (hc rfl rfl)) gv_min hg hm (by decide +kernel) ha (by decide) (by decide) hst
  | max => exact pe_bltM (call_max2 (hc rfl rfl)) gv_max hg hm (by decide +kernel) ha (by decide) (by decide) hst
theorem pe_isM (gd : Gd X C W k g) (T : Ty) {e : Expr} {m : Env → Res R} {p p' pos : Pos} (hg : Gl X "isinstance") (hm : X.mg "isinstance" = none) (hgT : Gl X T.nm) (hmT : X.mg T.nm = none) (he : PE X e (tM C W m)) (hst : noStar e = true) :
    PE X (.Call (.Name "isinstance" p) [e, .Name T.nm p'] [] pos) (tM C W (eIsi T.T m)) := by
  cases T <;> exact pe_isiM gd.hK hg hm hgT hmT (by decide +kernel) (by decide) (by decide) he hst
end
end Mp

namespace Mp
open PySem L2

/-! ### the words are right -/
def isBo : Expr → Bool
  | .BoolOp .. => true
  | _ => false
theorem plainTest_bo {e : Expr} (h : plainTest e = true) : isBo e = false := by
  cases e <;> first | rfl | simp [plainTest] at h
/-- how a comprehension that is stored in a name stands -/
def swB (env : PySem.Env) (scope : Scope) (y : Str) (py pos : Pos) : Bool :=
  env.scope.kind == .function && env.kindOf y == some .local && py.line == pos.line && !(scope.names.any fun (n, k) => n == y && (k == .local || k == .cell))
theorem swaps_lc {elt : Expr} {gs : List Comprehension} {scope : Scope} {pos py : Pos} {y : Str} {l : Nat} {env : PySem.Env} (hk : env.scope.kind = .function) :
    swapsWith (.ListComp elt gs scope pos) (some (.Name y py)) l env = pure (swB env scope y py pos) := by
  have hb : env.blockKind = .function := by unfold PySem.Env.blockKind; rw [hk]; rfl
  unfold swapsWith swB
  simp only [hb, hk, Expr.pos]
  first | rfl | skip
structure Sound (m : Xp) (X : Cx) (C : Cn) (W : WX) (k : Ck) (g : G) (e : Expr) : Prop where
  pe : chk m .v k e = true → PE X e (tM C W (den g m))
  pt : chk m .t k e = true → PT X e (tMt C W (den g m)) ∧ (isBo e = true → PW X e (tMt C W (den g m)))
  ps : chk m .s k e = true → ∀ tg x, PI X tg e (tI C W x (if x = true then eSeqX (den g m) else eSeq (den g m)))
  pc : chk m .v k e = true → ∀ elt cs scope pos y py spos i io ow, e = .ListComp elt cs scope pos → X.N[i]? = some y → stoOk X.env.scope X.fn y = true → X.env.scope.kind = .function → i ∉ io → PS X (.Assign [.Name y py] e spos) (tS C W io (sSet ow i (den g m)))
def AllSound (m : Xp) : Prop := ∀ {X C W k g} (_ : Gd X C W k g) (e : Expr), Sound m X C W k g e
theorem pi_both {X : Cx} {C : Cn} {W : WX} {e : Expr} {m : Env → Res R} (hK : X.K = C.K) (h : PE X e (tM C W m)) (tg : Expr) (x : Bool) : PI X tg e (tI C W x (if x = true then eSeqX m else eSeq m)) := by
  cases x with
  | true => exact pi_seqMX hK h
  | false => exact pi_seqM hK h
/-- a word that is no operation of logic, and no comprehension -/
theorem Sound.mk' {m : Xp} {X : Cx} {C : Cn} {W : WX} {k : Ck} {g : G} {e : Expr} (gd : Gd X C W k g) (body : Bool) (hd : ∀ t, chk m t k e = (pl t e && body)) (h : body = true → PE X e (tM C W (den g m)))
    (hc : body = true → ∀ elt cs scope pos, e ≠ .ListComp elt cs scope pos) : Sound m X C W k g e where
  pe := fun q => h (by rw [hd, Bool.and_eq_true] at q; exact q.2)
  pt := fun q => by
    rw [hd, Bool.and_eq_true] at q
    exact ⟨pt_of (h q.2) (isTrue_of q.1), fun z => by rw [plainTest_bo q.1] at z; cases z⟩
  ps := fun q tg x => pi_both gd.hK (h (by rw [hd, Bool.and_eq_true] at q; exact q.2)) tg x
  pc := fun q elt cs scope pos _ _ _ _ _ _ z => absurd z (hc (by rw [hd, Bool.and_eq_true] at q; exact q.2) elt cs scope pos)
section
variable {X : Cx} {C : Cn} {W : WX} {k : Ck} {g : G}
theorem head_cons {m : Xp} {ms : List Xp} : (dens g (m :: ms)).head? = some (den g m) := rfl
/-- what a logic word gives -/
theorem Sound.lg {m : Xp} {e : Expr} (gd : Gd X C W k g) (pe : chk m .v k e = true → PE X e (tM C W (den g m))) (pt : chk m .t k e = true → PT X e (tMt C W (den g m)) ∧ (isBo e = true → PW X e (tMt C W (den g m)))) (hs : chk m .s k e = false)
    (hc : chk m .v k e = true → ∀ elt cs scope pos, e ≠ .ListComp elt cs scope pos) : Sound m X C W k g e :=
  ⟨pe, pt, fun q => (by rw [hs] at q; cases q), fun q elt cs scope pos _ _ _ _ _ _ z _ _ _ _ => absurd z (hc q elt cs scope pos)⟩
end
/-- the parts of a list of words -/
def AllsSound (ms : List Xp) : Prop := (∀ {X C W k g} (_ : Gd X C W k g) (es : List Expr), chks ms k es = true → es.all noStar = true → PA X es (tMs C W (eArgs (dens g ms))) ∧ es.length = ms.length) ∧
  (∀ {X C W k g} (_ : Gd X C W k g) (o : Option Expr), chko ms k o = true → (∀ e, o = some e → ∃ m, (dens g ms).head? = some m ∧ PE X e (tM C W m)) ∧ (o = none → (dens g ms).head? = none)) ∧
  (∀ {X C W k g} (_ : Gd X C W k g) (es : List Expr), chkt ms k es = true → W = WN → PTs X es (tTt C (dens g ms).head?))
theorem sound_nil : AllsSound [] := by
  refine ⟨fun gd es h _ => ?_, fun gd o h => ?_, fun gd es h _ => ?_⟩
  · simp only [chks, List.isEmpty_iff] at h
    subst h
    exact ⟨pa_nilM, rfl⟩
  · simp only [chko, Option.isNone_iff_eq_none] at h
    subst h
    exact ⟨fun e z => (by cases z), fun _ => rfl⟩
  · simp only [chkt, List.isEmpty_iff] at h
    subst h
    exact pts_nil
theorem sound_cons {m : Xp} {ms : List Xp} (h : AllSound m) (hs : AllsSound ms) : AllsSound (m :: ms) := by
  refine ⟨fun gd es q st => ?_, fun gd o q => ?_, fun gd es q hw => ?_⟩
  · simp only [chks] at q
    split at q
    · next e es =>
      rw [Bool.and_eq_true] at q
      rw [List.all_cons, Bool.and_eq_true] at st
      obtain ⟨a, b⟩ := hs.1 gd es q.2 st.2
      exact ⟨pa_consM ((h gd e).pe q.1) a (starEach_cons st.1), by rw [List.length_cons, List.length_cons, b]⟩
    · cases q
  · simp only [chko] at q
    split at q
    · next e =>
      rw [Bool.and_eq_true] at q
      exact ⟨fun e' z => by cases z; exact ⟨_, rfl, (h gd e).pe q.2⟩, fun z => by cases z⟩
    · cases q
  · simp only [chkt] at q
    split at q
    · next e =>
      rw [Bool.and_eq_true] at q
      subst hw
      exact pts_one ((h gd e).pt q.2).1
    · cases q
theorem plain_of {t : Md} {m : Xp} : True := trivial
theorem s_var (i : Nat) : AllSound (.var i) := fun {X C W k g} gd e => by
  refine Sound.mk' gd _ (fun t => by unfold chk; rfl) (fun h => ?_) (fun h => ?_)
  · split at h
    · simp only [Bool.and_eq_true, decide_eq_true_eq] at h
      obtain ⟨h1, h2, h3⟩ := h
      rw [← gd.sc] at h2
      obtain ⟨a, b⟩ := okName_of h3
      rw [den]
      exact pe_name gd.hK (by rw [gd.hN]; exact h1) (vis_of h2) a b
    · cases h
  · intro _ _ _ _ z; subst z; cases h
theorem s_cst (d : D) : AllSound (.cst d) := fun {X C W k g} gd e => by
  refine Sound.mk' gd _ (fun t => by unfold chk; rfl) (fun h => ?_) (fun h => ?_)
  · split at h
    · rw [den]; exact pe_cst h
    · cases h
  · intro _ _ _ _ z; subst z; cases h
theorem s_glo (y : Str) : AllSound (.glo y) := fun {X C W k g} gd e => by
  refine Sound.mk' gd _ (fun t => by unfold chk; rfl) (fun h => ?_) (fun h => ?_)
  · split at h
    · simp only [Bool.and_eq_true, decide_eq_true_eq] at h
      obtain ⟨rfl, h2, h3⟩ := h
      rw [← gd.sc] at h2
      rw [den]
      exact pe_gloM gd (glo_of h2) (okName_of h3).1
    · cases h
  · intro _ _ _ _ z; subst z; cases h
theorem s_tup (es : List Xp) (ih : AllsSound es) : AllSound (.tup es) := fun {X C W k g} gd e => by
  refine Sound.mk' gd _ (fun t => by unfold chk; rfl) (fun h => ?_) (fun h => ?_)
  · split at h
    · rw [Bool.and_eq_true] at h
      rw [den]; exact pe_tupM (ih.1 gd _ h.2 h.1).1
    · cases h
  · intro _ _ _ _ z; subst z; cases h
theorem s_lst (es : List Xp) (ih : AllsSound es) : AllSound (.lst es) := fun {X C W k g} gd e => by
  refine Sound.mk' gd _ (fun t => by unfold chk; rfl) (fun h => ?_) (fun h => ?_)
  · split at h
    · rw [Bool.and_eq_true] at h
      rw [den]; exact pe_lstM (ih.1 gd _ h.2 h.1).1
    · cases h
  · intro _ _ _ _ z; subst z; cases h
theorem s_and (a b : Xp) (ha : AllSound a) (hb : AllSound b) : AllSound (.and a b) := fun {X C W k g} gd e => by
  refine Sound.lg gd (fun h => ?_) (fun h => ?_) (by unfold chk; rfl) (fun h => ?_)
  · unfold chk at h; rw [Bool.and_eq_true] at h
    obtain ⟨_, h⟩ := h
    split at h
    · next x y r p =>
      rw [Bool.and_eq_true] at h
      rw [den]
      refine pe_andM ((ha gd x).pe h.1) ?_
      have h2 := h.2
      split at h2
      · exact pe_one ((hb gd y).pe h2)
      · exact (hb gd _).pe h2
    · cases h
  · unfold chk at h; rw [Bool.and_eq_true] at h
    obtain ⟨_, h⟩ := h
    split at h
    · next x y r p =>
      rw [Bool.and_eq_true] at h
      rw [den]
      have w : PW X (.BoolOp .And (x :: y :: r) p) (tMt C W (eAnd (den g a) (den g b))) := by
        refine pw_andM ((ha gd x).pt h.1).1 ?_
        have h2 := h.2
        split at h2
        · exact pw_and1 ((hb gd y).pt h2).1
        · exact ((hb gd _).pt h2).2 rfl
      exact ⟨w.pt, fun _ => w⟩
    · cases h
  · unfold chk at h; rw [Bool.and_eq_true] at h
    obtain ⟨_, h⟩ := h
    intro _ _ _ _ z; subst z; cases h
theorem s_or (a b : Xp) (ha : AllSound a) (hb : AllSound b) : AllSound (.or a b) := fun {X C W k g} gd e => by
  refine Sound.lg gd (fun h => ?_) (fun h => ?_) (by unfold chk; rfl) (fun h => ?_)
  · unfold chk at h; rw [Bool.and_eq_true] at h
    obtain ⟨_, h⟩ := h
    split at h
    · next x y r p =>
      rw [Bool.and_eq_true] at h
      rw [den]
      refine pe_orM ((ha gd x).pe h.1) ?_
      have h2 := h.2
      split at h2
      · exact pe_one ((hb gd y).pe h2)
      · exact (hb gd _).pe h2
    · cases h
  · unfold chk at h; rw [Bool.and_eq_true] at h
    obtain ⟨_, h⟩ := h
    split at h
    · next x y r p =>
      rw [Bool.and_eq_true] at h
      rw [den]
      have w : PW X (.BoolOp .Or (x :: y :: r) p) (tMt C W (eOr (den g a) (den g b))) := by
        refine pw_orM ((ha gd x).pt h.1).1 ?_
        have h2 := h.2
        split at h2
        · exact pw_or1 ((hb gd y).pt h2).1
        · exact ((hb gd _).pt h2).2 rfl
      exact ⟨w.pt, fun _ => w⟩
    · cases h
  · unfold chk at h; rw [Bool.and_eq_true] at h
    obtain ⟨_, h⟩ := h
    intro _ _ _ _ z; subst z; cases h
theorem s_not (a : Xp) (ha : AllSound a) : AllSound (.not a) := fun {X C W k g} gd e => by
  refine Sound.lg gd (fun h => ?_) (fun h => ?_) (by unfold chk; rfl) (fun h => ?_)
  · unfold chk at h; rw [Bool.and_eq_true] at h
    obtain ⟨_, h⟩ := h
    split at h
    · rw [den]; exact pe_notM ((ha gd _).pe h)
    · cases h
  · unfold chk at h; rw [Bool.and_eq_true] at h
    obtain ⟨_, h⟩ := h
    split at h
    · rw [den]; exact ⟨pt_notM ((ha gd _).pt h).1, fun z => by cases z⟩
    · cases h
  · unfold chk at h; rw [Bool.and_eq_true] at h
    obtain ⟨_, h⟩ := h
    intro _ _ _ _ z; subst z; cases h
theorem s_neg (a : Xp) (ha : AllSound a) : AllSound (.neg a) := fun {X C W k g} gd e => by
  refine Sound.mk' gd _ (fun t => by unfold chk; rfl) (fun h => ?_) (fun h => ?_)
  · split at h
    · rw [den]; exact pe_negM ((ha gd _).pe h)
    · cases h
  · intro _ _ _ _ z; subst z; cases h
theorem s_bin (op : Operator) (a b : Xp) (ha : AllSound a) (hb : AllSound b) : AllSound (.bin op a b) := fun {X C W k g} gd e => by
  refine Sound.mk' gd _ (fun t => by unfold chk; rfl) (fun h => ?_) (fun h => ?_)
  · split at h
    · simp only [Bool.and_eq_true, decide_eq_true_eq] at h
      obtain ⟨rfl, h1, h2⟩ := h
      rw [den]; exact pe_binM gd.hK ((ha gd _).pe h1) ((hb gd _).pe h2)
    · cases h
  · intro _ _ _ _ z; subst z; cases h
theorem s_cmp (op : CmpOp) (a b : Xp) (ha : AllSound a) (hb : AllSound b) : AllSound (.cmp op a b) := fun {X C W k g} gd e => by
  refine Sound.lg gd (fun h => ?_) (fun h => ?_) (by unfold chk; rfl) (fun h => ?_)
  · unfold chk at h; rw [Bool.and_eq_true] at h
    obtain ⟨_, h⟩ := h
    split at h
    · simp only [Bool.and_eq_true, decide_eq_true_eq, Bool.not_eq_true'] at h
      obtain ⟨rfl, h0, h1, h2⟩ := h
      rw [den]; exact pe_cmpM gd.hK gd.un ((ha gd _).pe h1) ((hb gd _).pe h2) h0
    · cases h
  · unfold chk at h; rw [Bool.and_eq_true] at h
    obtain ⟨_, h⟩ := h
    split at h
    · simp only [Bool.and_eq_true, decide_eq_true_eq, Bool.not_eq_true'] at h
      obtain ⟨rfl, h0, h1, h2⟩ := h
      rw [den]; exact ⟨pt_cmpM gd.hK gd.un ((ha gd _).pe h1) ((hb gd _).pe h2) h0, fun z => by cases z⟩
    · cases h
  · unfold chk at h; rw [Bool.and_eq_true] at h
    obtain ⟨_, h⟩ := h
    intro _ _ _ _ z; subst z; cases h
theorem s_chn (op op' : CmpOp) (a b c : Xp) (ha : AllSound a) (hb : AllSound b) (hc : AllSound c) : AllSound (.chn op op' a b c) := fun {X C W k g} gd e => by
  refine Sound.mk' gd _ (fun t => by unfold chk; rfl) (fun h => ?_) (fun h => ?_)
  · split at h
    · simp only [Bool.and_eq_true, decide_eq_true_eq, Bool.not_eq_true'] at h
      obtain ⟨rfl, rfl, h0, h1, h2, h3⟩ := h
      rw [den]; exact pe_chainM gd.hK gd.un ((ha gd _).pe h1) ((hb gd _).pe h2) ((hc gd _).pe h3) (pe_chain (opR_cmp gd.un _) (opR_cmp gd.un _) ((ha gd _).pe h1) ((hb gd _).pe h2) ((hc gd _).pe h3) h0)
    · cases h
  · intro _ _ _ _ z; subst z; cases h
theorem s_ite (c a b : Xp) (hc : AllSound c) (ha : AllSound a) (hb : AllSound b) : AllSound (.ite c a b) := fun {X C W k g} gd e => by
  refine Sound.mk' gd _ (fun t => by unfold chk; rfl) (fun h => ?_) (fun h => ?_)
  · split at h
    · simp only [Bool.and_eq_true] at h
      obtain ⟨h1, h2, h3⟩ := h
      rw [den]; exact pe_iteM ((hc gd _).pt h1).1 ((ha gd _).pe h2) ((hb gd _).pe h3)
    · cases h
  · intro _ _ _ _ z; subst z; cases h
theorem s_ix (a b : Xp) (ha : AllSound a) (hb : AllSound b) : AllSound (.ix a b) := fun {X C W k g} gd e => by
  refine Sound.mk' gd _ (fun t => by unfold chk; rfl) (fun h => ?_) (fun h => ?_)
  · split at h
    · simp only [Bool.and_eq_true] at h
      obtain ⟨h1, h2, h3⟩ := h
      rw [den]; exact pe_ixM gd.hK gd.un ((ha gd _).pe h2) ((hb gd _).pe h3) (plainIx_of h1)
    · cases h
  · intro _ _ _ _ z; subst z; cases h
theorem s_sl (a : Xp) (lo hi : List Xp) (ha : AllSound a) (hl : AllsSound lo) (hh : AllsSound hi) : AllSound (.sl a lo hi) := fun {X C W k g} gd e => by
  refine Sound.mk' gd _ (fun t => by unfold chk; rfl) (fun h => ?_) (fun h => ?_)
  · split at h
    · simp only [Bool.and_eq_true] at h
      obtain ⟨h1, h2, h3⟩ := h
      obtain ⟨a1, a2⟩ := hl.2.1 gd _ h2
      obtain ⟨b1, b2⟩ := hh.2.1 gd _ h3
      rw [den]; exact pe_slM gd.hK ((ha gd _).pe h1) a1 a2 b1 b2
    · cases h
  · intro _ _ _ _ z; subst z; cases h
theorem s_blt (b : Bt) (es : List Xp) (ih : AllsSound es) : AllSound (.blt b es) := fun {X C W k g} gd e => by
  refine Sound.mk' gd _ (fun t => by unfold chk; rfl) (fun h => ?_) (fun h => ?_)
  · split at h
    · simp only [Bool.and_eq_true, decide_eq_true_eq] at h
      obtain ⟨rfl, h2, h3, hb, h4, h5⟩ := h
      rw [← gd.sc] at h2
      rw [den]; exact pe_btM gd b (by rw [Bool.or_eq_true] at hb; exact hb.imp id gd.calm) (glo_of h2) (gd.bs _ h3) (ih.1 gd _ h5 h4).1 h4
    · cases h
  · intro _ _ _ _ z; subst z; cases h
theorem s_isi (a : Xp) (T : Ty) (ha : AllSound a) : AllSound (.isi a T) := fun {X C W k g} gd e => by
  refine Sound.mk' gd _ (fun t => by unfold chk; rfl) (fun h => ?_) (fun h => ?_)
  · split at h
    · simp only [Bool.and_eq_true, decide_eq_true_eq] at h
      obtain ⟨rfl, rfl, h2, h3, h4, h5, h6, h7⟩ := h
      rw [← gd.sc] at h2 h3
      rw [den]; exact pe_isM gd T (glo_of h2) (gd.bs _ h4) (glo_of h3) (gd.bs _ h5) ((ha gd _).pe h7) h6
    · cases h
  · intro _ _ _ _ z; subst z; cases h
theorem s_join (a b : Xp) (ha : AllSound a) (hb : AllSound b) : AllSound (.join a b) := fun {X C W k g} gd e => by
  refine Sound.mk' gd _ (fun t => by unfold chk; rfl) (fun h => ?_) (fun h => ?_)
  · split at h
    · simp only [Bool.and_eq_true, decide_eq_true_eq] at h
      obtain ⟨rfl, h2, h3, h4, h5, h6⟩ := h
      rw [den]; exact pe_joinM gd.hK ((ha gd _).pe h5) ((hb gd _).pe h6) h2 h3 h4
    · cases h
  · intro _ _ _ _ z; subst z; cases h
theorem s_get2 (a b c : Xp) (ha : AllSound a) (hb : AllSound b) (hc : AllSound c) : AllSound (.get2 a b c) := fun {X C W k g} gd e => by
  refine Sound.mk' gd _ (fun t => by unfold chk; rfl) (fun h => ?_) (fun h => ?_)
  · split at h
    · simp only [Bool.and_eq_true, decide_eq_true_eq] at h
      obtain ⟨rfl, h2, h3, h4, h5, h6, h7, h8⟩ := h
      rw [den]; exact pe_get2M gd.un ((ha gd _).pe h6) ((hb gd _).pe h7) ((hc gd _).pe h8) h4 h2 h3 h5
    · cases h
  · intro _ _ _ _ z; subst z; cases h
theorem s_get1 (a b : Xp) (ha : AllSound a) (hb : AllSound b) : AllSound (.get1 a b) := fun {X C W k g} gd e => by
  refine Sound.mk' gd _ (fun t => by unfold chk; rfl) (fun h => ?_) (fun h => ?_)
  · split at h
    · simp only [Bool.and_eq_true, decide_eq_true_eq] at h
      obtain ⟨rfl, h2, h3, h4, h5, h6⟩ := h
      rw [den]; exact pe_get1M gd.un ((ha gd _).pe h5) ((hb gd _).pe h6) h3 h2 h4
    · cases h
  · intro _ _ _ _ z; subst z; cases h
theorem s_dct0 (tk : Bool) : AllSound (.dct0 tk) := fun {X C W k g} gd e => by
  refine Sound.mk' gd _ (fun t => by unfold chk; rfl) (fun h => ?_) (fun h => ?_)
  · split at h
    · rw [den]; exact pe_dct0M tk
    · cases h
  · intro _ _ _ _ z; subst z; cases h
theorem s_din (neg : Bool) (a b : Xp) (ha : AllSound a) (hb : AllSound b) : AllSound (.din neg a b) := fun {X C W k g} gd e => by
  refine Sound.lg gd (fun h => ?_) (fun h => ?_) (by unfold chk; rfl) (fun h => ?_)
  · unfold chk at h; rw [Bool.and_eq_true] at h
    obtain ⟨_, h⟩ := h
    split at h
    · simp only [Bool.and_eq_true, Bool.not_eq_true'] at h
      obtain ⟨rfl, h0, h1, h2⟩ := h
      rw [den]; exact pe_dinM gd.hK gd.un ((ha gd _).pe h1) ((hb gd _).pe h2) h0
    · simp only [Bool.and_eq_true, Bool.not_eq_true'] at h
      obtain ⟨rfl, h0, h1, h2⟩ := h
      rw [den]; exact pe_dninM gd.hK gd.un ((ha gd _).pe h1) ((hb gd _).pe h2) h0
    · cases h
  · unfold chk at h; rw [Bool.and_eq_true] at h
    obtain ⟨_, h⟩ := h
    split at h
    · simp only [Bool.and_eq_true, Bool.not_eq_true'] at h
      obtain ⟨rfl, h0, h1, h2⟩ := h
      rw [den]; exact ⟨pt_dinM gd.hK gd.un ((ha gd _).pe h1) ((hb gd _).pe h2) h0, fun z => by cases z⟩
    · simp only [Bool.and_eq_true, Bool.not_eq_true'] at h
      obtain ⟨rfl, h0, h1, h2⟩ := h
      rw [den]; exact ⟨pt_dninM gd.hK gd.un ((ha gd _).pe h1) ((hb gd _).pe h2) h0, fun z => by cases z⟩
    · cases h
  · unfold chk at h; rw [Bool.and_eq_true] at h
    obtain ⟨_, h⟩ := h
    intro _ _ _ _ z; subst z; cases h
theorem s_call (f : Nat) (es : List Xp) (ih : AllsSound es) : AllSound (.call f es) := fun {X C W k g} gd e => by
  refine Sound.mk' gd _ (fun t => by unfold chk; rfl) (fun h => ?_) (fun h => ?_)
  · split at h
    · simp only [Bool.and_eq_true, decide_eq_true_eq] at h
      obtain ⟨h1, h2, h3, h4, h5⟩ := h
      rw [← gd.sc] at h2
      rw [den]; exact pe_ownM gd.hK gd.tk (gd.fs _ _ _ h1) (glo_of h2) (okName_of h3).1 (ih.1 gd _ h5 h4).1 h4 (dens_len g es)
    · cases h
  · intro _ _ _ _ z; subst z; cases h
theorem rngV_seq {ms : List (Env → Res R)} : eSeq (eRngV ms) = eRng ms := by
  funext ρ
  unfold eSeq eRngV toRes
  cases eRng ms ρ <;> rfl
theorem rngV_seqX {ms : List (Env → Res R)} : eSeqX (eRngV ms) = eRng ms := by
  funext ρ
  unfold eSeqX eRngV toRes
  cases eRng ms ρ <;> rfl
theorem s_rng (es : List Xp) (ih : AllsSound es) : AllSound (.rng es) := fun {X C W k g} gd e => by
  refine ⟨fun h => ?_, fun h => ?_, fun h tg x => ?_, fun h => ?_⟩
  · unfold chk at h; rw [Bool.and_eq_true] at h; cases h.1
  · unfold chk at h; rw [Bool.and_eq_true] at h; cases h.1
  · unfold chk at h; rw [Bool.and_eq_true] at h
    obtain ⟨_, h⟩ := h
    split at h
    · simp only [Bool.and_eq_true, decide_eq_true_eq, Bool.or_eq_true, beq_iff_eq] at h
      obtain ⟨rfl, h2, h3, h4, h5, h6⟩ := h
      rw [← gd.sc] at h2
      rw [den, rngV_seq, rngV_seqX, ite_self]
      obtain ⟨q1, q2⟩ := ih.1 gd _ h6 h5
      exact pi_rngM (glo_of h2) (gd.bs _ h3) q1 h5 h4 (by rw [dens_len, q2])
    · cases h
  · unfold chk at h; rw [Bool.and_eq_true] at h; cases h.1
theorem ownOf_map (N : List Str) (is : List Nat) : (ownOf N is).map (·.2) = is := by
  unfold ownOf
  rw [List.map_map]
  exact List.map_id' is
theorem s_lc (elt : Xp) (t : Tg) (src : Xp) (tt : List Xp) (h1 : AllSound elt) (h2 : AllSound src) (h3 : AllsSound tt) : AllSound (.lc elt t src tt) := fun {X C W k g} gd e => by
  have key : ∀ {x : Expr} {tg it : Expr} {ifs : List Expr} {a : Int} {sc : Scope}, (decide (a = 0) && k.calm && (chkTg k.N (k.blk sc).sc (k.blk sc).fn tg t && (blkC k.N k.sc sc (ownOf k.N t.slots) && (plainIter it && (chk src .s k it && (chkt tt (k.blk sc) ifs && chk elt .v (k.blk sc) x)))))) = true →
      a = 0 ∧ X.calm = true ∧ PI X tg it (tI C W false (eSeq (den g src))) ∧ BlkOk X.N X.env.scope sc (ownOf X.N t.slots) ∧ plainIter it = true ∧
      (∀ (s : Shared) (H : Hp) (C' : Addr) (cl : List (Str × Addr)) (fp : List Addr), PG (X.blk s H sc (compEnvC sc cl C' X.env) fp) tg (tgT X.K t)) ∧
      (∀ (s : Shared) (H : Hp) (C' : Addr) (cl : List (Str × Addr)) (fp : List Addr), PTs (X.blk s H sc (compEnvC sc cl C' X.env) fp) ifs (tTt C (dens g tt).head?)) ∧
      (∀ (s : Shared) (H : Hp) (C' : Addr) (cl : List (Str × Addr)) (fp : List Addr), PE (X.blk s H sc (compEnvC sc cl C' X.env) fp) x (tM C WN (den g elt))) := by
    intro x tg it ifs a sc h
    simp only [Bool.and_eq_true, decide_eq_true_eq] at h
    obtain ⟨⟨q0, qc⟩, q1, q2, q3, q4, q5, q6⟩ := h
    have hcalm := gd.calm qc
    refine ⟨q0, hcalm, (h2 gd it).ps q4 tg false, ?_, q3, fun s H C' cl fp => ?_, fun s H C' cl fp => ?_, fun s H C' cl fp => ?_⟩
    · rw [gd.hN, gd.sc]; exact blkOk_by q2
    · have gb := gd.blk s H sc C' cl fp
      refine pg_of gb.nd (gb.calm qc) ?_
      rw [gb.hN, gb.sc, gb.fn]
      exact q1
    · exact h3.2.2 (gd.blk s H sc C' cl fp) ifs q5 rfl
    · exact (h1 (gd.blk s H sc C' cl fp) x).pe q6
  have pe : chk (.lc elt t src tt) .v k e = true → PE X e (tM C W (den g (.lc elt t src tt))) := fun h => by
    unfold chk at h; rw [Bool.and_eq_true] at h
    obtain ⟨_, h⟩ := h
    split at h
    · obtain ⟨rfl, k0, k1, k2, k3, k4, k5, k6⟩ := key h
      rw [den]
      exact pe_lcM gd.hK k0 gd.nd k1 k2 (ownOf_map _ _) k4 k5 k6 k3
    · cases h
  have any : ∀ t', chk (.lc elt t src tt) t' k e = true → chk (.lc elt t src tt) .v k e = true := fun t' h => by
    unfold chk at h ⊢; rw [Bool.and_eq_true] at h ⊢
    exact ⟨rfl, h.2⟩
  refine ⟨pe, fun h => ?_, fun h tg x => pi_both gd.hK (pe (any _ h)) tg x, fun h => ?_⟩
  · have h' := any _ h
    unfold chk at h; rw [Bool.and_eq_true] at h
    exact ⟨pt_of (pe h') (isTrue_of h.1), fun z => by rw [plainTest_bo h.1] at z; cases z⟩
  · intro elt' cs scope pos y py spos i io ow ee hi hst hk hio
    subst ee
    by_cases hb : swB X.env scope y py pos = true
    · unfold chk at h; rw [Bool.and_eq_true] at h
      obtain ⟨_, h⟩ := h
      split at h
      · next x tg it ifs a sc p ee =>
        cases ee
        obtain ⟨rfl, k0, k1, k2, k3, k4, k5, k6⟩ := key h
        unfold swB at hb
        simp only [Bool.and_eq_true, beq_iff_eq, Bool.not_eq_true'] at hb
        rw [den]
        exact ps_setLcM gd.hK k0 gd.nd hi hb.1.1.2 hk (beq_iff_eq.mpr hb.1.2) hb.2 hio k1 k2 (ownOf_map _ _) k4 k5 k6 k3
      · cases h
    · have hb' : swB X.env scope y py pos = false := Bool.eq_false_iff.mpr hb
      obtain ⟨s1, s2⟩ := stoOk_loc hst
      exact PS.weak (ps_set gd.nd hi s1 (pe h) (by rw [swaps_lc hk, hb']) s2) (tAsg_set (fun _ _ _ h => h) hio)
mutual
theorem sound : ∀ m : Xp, AllSound m
  | .var i => s_var i
  | .cst d => s_cst d
  | .glo x => s_glo x
  | .tup es => s_tup es (sounds es)
  | .lst es => s_lst es (sounds es)
  | .and a b => s_and a b (sound a) (sound b)
  | .or a b => s_or a b (sound a) (sound b)
  | .not a => s_not a (sound a)
  | .neg a => s_neg a (sound a)
  | .bin op a b => s_bin op a b (sound a) (sound b)
  | .cmp op a b => s_cmp op a b (sound a) (sound b)
  | .chn op op' a b c => s_chn op op' a b c (sound a) (sound b) (sound c)
  | .ite c a b => s_ite c a b (sound c) (sound a) (sound b)
  | .ix a b => s_ix a b (sound a) (sound b)
  | .sl a lo hi => s_sl a lo hi (sound a) (sounds lo) (sounds hi)
  | .blt b es => s_blt b es (sounds es)
  | .isi a T => s_isi a T (sound a)
  | .join a b => s_join a b (sound a) (sound b)
  | .get2 a b c => s_get2 a b c (sound a) (sound b) (sound c)
  | .call f es => s_call f es (sounds es)
  | .dct0 tk => s_dct0 tk
  | .din neg a b => s_din neg a b (sound a) (sound b)
  | .get1 a b => s_get1 a b (sound a) (sound b)
  | .rng es => s_rng es (sounds es)
  | .lc elt t src tt => s_lc elt t src tt (sound elt) (sound src) (sounds tt)
theorem sounds : ∀ ms : List Xp, AllsSound ms
  | [] => sound_nil
  | m :: ms => sound_cons (sound m) (sounds ms)
end
end Mp

namespace Mp
open PySem L2

/-! ### what a slot owns: handed back, frozen -/
section
variable {K : PySem.W.Frag} {io : List Nat} {σ : L2.St} {H H' : Hp} {ρ : Env} {c : Nat → List Addr} {S : Addr → Prop} {i : Nat} {d : D}
theorem SR.frz (h : SR K σ H ρ c S) (e : ρ[i]? = some (some (.own d))) : SR K σ H (ρ.set i (some (.val d))) (cut c i) S := by
  obtain ⟨v, h1, a, rfl, hcell, hb⟩ := h.rep i _ e
  have h0 := (h.dropE i).setV (i := i) (v := .ref a) (d := d) (by unfold cut; rw [if_pos rfl]) (hb.rp (fun _ z => cut_own z) fun z => by
    rcases z with ⟨j, hj⟩ | z
    · unfold cut at hj
      split at hj
      · cases hj
      · next hn => exact hn (h.dis j i a hj (by rw [hcell]; simp))
    · exact h.sep i a (by rw [hcell]; simp) z)
  have e1 : σ.set i (some (.ref a)) = σ := by
    apply List.ext_getElem?
    intro j
    by_cases hj : i = j
    · subst hj
      rw [h1, List.getElem?_set_self (List.getElem?_eq_some_iff.mp h1).1]
    · rw [List.getElem?_set_ne hj]
  rw [e1, List.set_set] at h0
  exact h0
theorem Stp.frz (hio : i ∉ io) : Stp io σ ρ c H σ (ρ.set i (some (.val d))) (cut c i) H where
  fr := fun a o _ q => q
  tr := fun a o q => ⟨o, q⟩
  nw := fun a q => .inl (cut_cel q)
  bo := fun j d q => ⟨(set_bor (fun _ z => by cases z) q).1, rfl⟩
  io := fun j hj => by unfold cut; rw [if_neg]; intro z; subst z; exact hio hj
theorem Stp.out (hio : i ∉ io) : Stp io σ ρ c H σ (ρ.set i none) (cut c i) H where
  fr := fun a o _ q => q
  tr := fun a o q => ⟨o, q⟩
  nw := fun a q => .inl (cut_cel q)
  bo := fun j d q => ⟨(set_none q).1, rfl⟩
  io := fun j hj => by unfold cut; rw [if_neg]; intro z; subst z; exact hio hj
end
/-- the list that a slot owns may be changed no more -/
def sFrz (i : Nat) (ρ : Env) : Out := match ρ[i]? with
  | some (some (.own d)) => .nx (ρ.set i (some (.val d)))
  | _ => .nx ρ
/-- return x, x's list is the caller's -/
def sRetV (i : Nat) (ρ : Env) : Out := match ρ[i]? with
  | some (some (.own d)) => .rt (.own d) (ρ.set i none)
  | some (some (.val d)) => .rt (.val d) ρ
  | some (some (.bor d)) => .rt (.bor d) ρ
  | _ => .stuck
section
variable {X : Cx} {C : Cn} {W : WX} {io : List Nat} {i : Nat} {x : Str} {px pos : Pos} {sts : List Stmt} {m : Env → Out}
theorem pss_frzM (hio : i ∉ io) (h : PSs X sts (tS C W io m)) : PSs X sts (tS C W io (oSeq (sFrz i) m)) :=
  PSs.weak h fun E σ H ⟨ρ, c, S, sr, q⟩ => by
    unfold oSeq sFrz at q
    cases e : ρ[i]? with
    | none => rw [e] at q; exact ⟨ρ, c, S, sr, q⟩
    | some r =>
      cases r with
      | none => rw [e] at q; exact ⟨ρ, c, S, sr, q⟩
      | some r =>
        cases r with
        | own d =>
          rw [e] at q
          exact ⟨_, _, S, sr.frz e, SW.after (Stp.frz hio) q⟩
        | val d => rw [e] at q; exact ⟨ρ, c, S, sr, q⟩
        | bor d => rw [e] at q; exact ⟨ρ, c, S, sr, q⟩
theorem ps_retVM (hN : X.N[i]? = some x) (hv : Vis X.env.scope x) (hd : (x == ("__debug__" : Str)) = false) (hcd : (x == ("__classdict__" : Str)) = false) (hio : i ∉ io) : PS X (.Return (some (.Name x px)) pos) (tS C W io (sRetV i)) :=
  PS.weak (ps_ret (pe_var hN hv hd hcd)) fun E σ H ⟨ρ, c, S, sr, q⟩ => by
    unfold sRetV at q
    split at q
    · next d e =>
      obtain ⟨v, h1, a, rfl, hcell, hb⟩ := sr.rep i _ e
      have ha : a ∈ c i := by rw [hcell]; simp
      refine ⟨_, h1, q (.ref a) σ H (cut c i) (sr.dropE i) (Stp.out hio) ⟨a, rfl, .inl ⟨i, ha⟩, ?_, hb.less fun b z => ?_⟩⟩
      · rintro (z | ⟨j, hj, z⟩)
        · exact sr.sep i a ha z
        · have := sr.dis i j a ha z; subst this; exact hio hj
      · rcases z with z | z
        · exact z.own
        · subst z; exact .inl ⟨i, ha⟩
    · next d e =>
      obtain ⟨v, h1, h2⟩ := sr.rep i _ e
      exact ⟨v, h1, q v σ H c sr Stp.refl (Rp.less (fun _ z => z.own) h2.2)⟩
    · next d e =>
      obtain ⟨v, h1, h2⟩ := sr.rep i _ e
      exact ⟨v, h1, q v σ H c sr Stp.refl (Lent.less (fun _ z => z.own) h2.2.lent)⟩
    · exact q.elim
end

/-! ### statements in words -/
inductive Sm where
  | pass | brk | cnt | drop (m : Xp) | ret (m : Xp) | retN | retV (i : Nat)
  | set (own : Bool) (i : Nat) (m : Xp) | unp (t : Tg) (m : Xp)
  | ite (c : Xp) (a b : List Sm) | fore (t : Tg) (s : Xp) (b : List Sm) | whl (n : Nat) (c : Xp) (b : List Sm)
  | app (i : Nat) (m : Xp) | ext (i : Nat) (m : Xp) | clr (i : Nat) | frz (i : Nat) | dput (i : Nat) (a b : Xp)
  | lend (i : Nat) (t : Tg) (b : List Sm) | callO (ret : Option Nat) (f : Nat) (es : List Xp) (p j : Nat)
  | raise (k : Nat) | tryM (b : List Sm) (js : List Nat) (ss : List (List Sm))
mutual
def denS (g : G) : Sm → Env → Out
  | .pass => .nx
  | .brk => .bk
  | .cnt => .ct
  | .drop m => sDrop (den g m)
  | .ret m => sRet (den g m)
  | .retN => sRetN
  | .retV i => sRetV i
  | .set ow i m => sSet ow i (den g m)
  | .unp t m => sUnp t (den g m)
  | .ite c a b => sIf (den g c) (denB g a) (denB g b)
  | .fore t s b => sFor t (eSeqX (den g s)) (denB g b)
  | .whl n c b => whGo (den g c) (denB g b) n
  | .app i m => sApp i (den g m)
  | .ext i m => sExt i (den g m)
  | .clr i => sClr i
  | .frz i => sFrz i
  | .dput i a b => sDput i (den g a) (den g b)
  | .lend i t b => sLend i t (denB g b)
  | .callO ret f es p j => sCallO (g.runO f) ret (dens g es) p j
  | .raise k => sRaise k
  | .tryM b js ss => sTry g.sub (denB g b) (js.zip (denL g ss))
def denB (g : G) : List Sm → Env → Out
  | [] => .nx
  | m :: ms => oSeq (denS g m) (denB g ms)
def denL (g : G) : List (List Sm) → List (Env → Out)
  | [] => []
  | b :: bs => denB g b :: denL g bs
end
/-- a name of the def that stands for its slot -/
def chkV (k : Ck) (i : Nat) (x : Str) : Bool := decide (k.N[i]? = some x) && (visOk k.sc x && okName x)
def isFun (sc : Scope) : Bool := match sc.kind with
  | .function => true
  | _ => false
def isLC : Expr → Bool
  | .ListComp .. => true
  | _ => false
def isFrz : Sm → Option Nat
  | .frz i => some i
  | _ => none
/-- arguments of which the p-th is the name in the slot j -/
def chkO : Nat → Nat → List Xp → Ck → List Expr → Bool
  | 0, j, ms, k, es => (match ms, es with
    | .var i :: ms, .Name x _ :: es => decide (i = j) && (chkV k j x && (es.all noStar && chks ms k es))
    | _, _ => false)
  | p + 1, j, ms, k, es => (match ms, es with
    | m :: ms, e :: es => noStar e && (chk m .v k e && chkO p j ms k es)
    | _, _ => false)
/-- within an except suite -/
def Ck.sui (k : Ck) : Ck := { k with fs := [], os := [], xs := [], calm := false }
mutual
def chkS : Sm → Ck → List Nat → Stmt → Bool
  | .pass, _, _, s => (match s with
    | .Pass _ => true
    | .Expr (.Constant (.str _) _ _) _ => true
    | _ => false)
  | .brk, _, _, s => (match s with
    | .Break _ => true
    | _ => false)
  | .cnt, _, _, s => (match s with
    | .Continue _ => true
    | _ => false)
  | .drop m, k, _, s => (match s with
    | .Expr e _ => noComp e && chk m .v k e
    | _ => false)
  | .ret m, k, _, s => (match s with
    | .Return (some e) _ => chk m .v k e
    | _ => false)
  | .retN, _, _, s => (match s with
    | .Return none _ => true
    | _ => false)
  | .retV i, k, io, s => (match s with
    | .Return (some (.Name x _)) _ => chkV k i x && !io.contains i
    | _ => false)
  | .set _ i m, k, io, s => (match s with
    | .Assign [.Name x _] e _ => decide (k.N[i]? = some x) && (stoOk k.sc k.fn x && (!io.contains i && (chk m .v k e && ((isLC e && isFun k.sc) || noComp e))))
    | _ => false)
  | .unp t m, k, io, s => (match s with
    | .Assign [.Tuple es n p] e _ => k.calm && chkTg k.N k.sc k.fn (.Tuple es n p) t && (t.slots.all (fun i => !io.contains i) && (noComp e && (noTup e && chk m .v k e)))
    | _ => false)
  | .ite c a b, k, io, s => (match s with
    | .If e sa sb _ => chk c .t k e && (chkB a k io sa && chkB b k io sb)
    | _ => false)
  | .fore t m b, k, io, s => (match s with
    | .For tg it sb [] _ => k.calm && chkTg k.N k.sc k.fn tg t && (t.slots.all (fun i => !io.contains i) && (plainIter it && (chk m .s k it && chkB b k io sb)))
    | _ => false)
  | .whl _ c b, k, io, s => (match s with
    | .While e sb [] _ => chk c .t k e && chkB b k io sb
    | _ => false)
  | .app i m, k, _, s => (match s with
    | .Expr (.Call (.Attribute (.Name x _) f ap) [e] [] cp) _ => decide (f = ("append" : Str)) && (chkV k i x && (noStar e && ((ap.endLine == cp.line) && chk m .v k e)))
    | _ => false)
  | .ext i m, k, _, s => (match s with
    | .Expr (.Call (.Attribute (.Name x _) f ap) [e] [] cp) _ => decide (f = ("extend" : Str)) && (chkV k i x && (noStar e && ((ap.endLine == cp.line) && chk m .v k e)))
    | _ => false)
  | .clr i, k, _, s => (match s with
    | .Expr (.Call (.Attribute (.Name x _) f ap) [] [] cp) _ => decide (f = ("clear" : Str)) && (chkV k i x && (ap.endLine == cp.line))
    | _ => false)
  | .frz _, _, _, _ => false
  | .dput i a b, k, _, s => (match s with
    | .Assign [.Subscript (.Name x _) y _] e _ => chkV k i x && (noComp e && (chk a .v k y && chk b .v k e))
    | _ => false)
  | .lend i t b, k, io, s => (match s with
    | .For tg (.Name x _) sb [] _ => chkV k i x && (!io.contains i && (k.calm && chkTg k.N k.sc k.fn tg t && (t.slots.all (fun i => !io.contains i) && chkB b k io sb)))
    | _ => false)
  | .callO ret f es p j, k, io, s => (match s, ret with
    | .Expr (.Call (.Name x _) (y :: ys) [] _) _, none => decide (k.os.lookup x = some (f, es.length, p)) && (gloOk k.sc x && (okName x && ((y :: ys).all noStar && chkO p j es k (y :: ys))))
    | .Assign [.Name z _] (.Call (.Name x _) (y :: ys) [] _) _, some i => decide (k.N[i]? = some z) && (stoOk k.sc k.fn z && (!io.contains i && (!(i == j) && (decide (k.os.lookup x = some (f, es.length, p)) && (gloOk k.sc x && (okName x && ((y :: ys).all noStar && chkO p j es k (y :: ys))))))))
    | _, _ => false)
  | .raise j, k, _, s => (match s with
    | .Raise (some (.Call (.Name x _) [.Constant (.str _) _ _] [] _)) none _ => k.calm && (decide (k.xs.lookup x = some j) && (gloOk k.sc x && okName x))
    | _ => false)
  | .tryM b js ss, k, io, s => (match s with
    | .Try body (h :: hds) [] [] _ => chkB b k io body && chkL ss js k io (h :: hds)
    | _ => false)
def chkL : List (List Sm) → List Nat → Ck → List Nat → List ExceptHandler → Bool
  | [], js, _, _, hds => js.isEmpty && hds.isEmpty
  | s :: ss, js, k, io, hds => (match js, hds with
    | j :: js, .ExceptHandler (some (.Name x _)) none (b :: sts) _ :: hds => decide (k.xs.lookup x = some j) && (gloOk k.sc x && (okName x && (chkB s k.sui io (b :: sts) && chkL ss js k io hds)))
    | _, _ => false)
def chkB : List Sm → Ck → List Nat → List Stmt → Bool
  | [], _, _, sts => sts.isEmpty
  | m :: ms, k, io, sts => (match isFrz m with
    | some i => !io.contains i && chkB ms k io sts
    | none => (match sts with
      | s :: sts => chkS m k io s && chkB ms k io sts
      | [] => false))
end
/-- around a def's statements -/
structure Gs (X : Cx) (C : Cn) (W : WX) (k : Ck) (g : G) : Prop extends Gd X C W k g where
  po : PassesOwn (model X.prog X.w) X.A X.env X.xe
  hs : X.stack = X.env :: X.outer
  hf : X.env.frame = some X.env.locals
theorem Gs.tr {X : Cx} {C : Cn} {W W' : WX} {k : Ck} {g : G} (h : Gs X C W k g) {pn : List (Addr × Obj)} {xe : Value → Shared → Prop} (tk : Takes (X.tr pn xe) W') (po : PassesOwn (model X.prog X.w) X.A X.env xe) : Gs (X.tr pn xe) C W' k g where
  hK := h.hK
  hN := h.hN
  nd := h.nd
  sc := h.sc
  fn := h.fn
  calm := h.calm
  un := h.un
  tk := tk
  bs := h.bs
  fs := h.fs
  os := h.os
  xc := fun x j e => let z := h.xc x j e; ⟨z.mg, z.kp, z.sub, z.ty, z.ex⟩
  xm := h.xm
  gl := h.gl
  po := po
  hs := h.hs
  hf := h.hf
theorem Gs.sui {X : Cx} {C : Cn} {W : WX} {k : Ck} {g : G} (h : Gs X C W k g) (a : Addr) (pn : List (Addr × Obj)) : Gs (X.suite a pn) C WN k.sui g where
  hK := h.hK
  hN := h.hN
  nd := h.nd
  sc := h.sc
  fn := h.fn
  calm := fun e => by cases e
  un := h.un
  tk := takes0
  bs := h.bs
  fs := fun x f n e => by simp [Ck.sui] at e
  os := fun x f n p e => by simp [Ck.sui] at e
  xc := fun x j e => by simp [Ck.sui] at e
  xm := h.xm
  gl := h.gl
  po := PassesOwn.never
  hs := h.hs
  hf := h.hf
section
variable {X : Cx} {C : Cn} {W : WX} {k : Ck} {g : G}
theorem not_io {io : List Nat} {i : Nat} (h : io.contains i = false) : i ∉ io := fun z => by
  rw [List.contains_iff_mem.mpr z] at h; cases h
theorem chkV_of (gd : Gd X C W k g) {i : Nat} {x : Str} (h : chkV k i x = true) : X.N[i]? = some x ∧ Vis X.env.scope x ∧ (x == ("__debug__" : Str)) = false ∧ (x == ("__classdict__" : Str)) = false := by
  unfold chkV at h
  simp only [Bool.and_eq_true, decide_eq_true_eq] at h
  obtain ⟨h1, h2, h3⟩ := h
  rw [← gd.sc] at h2
  exact ⟨by rw [gd.hN]; exact h1, vis_of h2, okName_of h3⟩
end
theorem soundO {X : Cx} {C : Cn} {W : WX} {k : Ck} {g : G} (gd : Gd X C W k g) : ∀ (p : Nat) {j : Nat} (ms : List Xp) (es : List Expr), chkO p j ms k es = true → PA X es (tMsO C W p j (eArgs (dens g ms))) ∧ p < ms.length
  | 0, j, ms, es, h => by
    unfold chkO at h
    split at h
    · next i ms x px es =>
      simp only [Bool.and_eq_true, decide_eq_true_eq] at h
      obtain ⟨rfl, h1, h2, h3⟩ := h
      obtain ⟨a, b, c, d⟩ := chkV_of gd h1
      refine ⟨?_, by simp⟩
      rw [dens, den]
      exact pa_varO a b c d ((sounds ms).1 gd es h3 h2).1
    · cases h
  | p + 1, j, ms, es, h => by
    unfold chkO at h
    split at h
    · next m ms e es =>
      simp only [Bool.and_eq_true] at h
      obtain ⟨h0, h1, h2⟩ := h
      obtain ⟨q1, q2⟩ := soundO gd p ms es h2
      refine ⟨?_, by simp; omega⟩
      rw [dens]
      exact pa_consO ((sound m gd e).pe h1) q1 h0
    · cases h
theorem isFun_of {sc : Scope} (h : isFun sc = true) : sc.kind = .function := by
  unfold isFun at h
  split at h
  · assumption
  · cases h
mutual
theorem soundS : ∀ (m : Sm) {X C W k g io} (_ : Gs X C W k g) (s : Stmt), chkS m k io s = true → PS X s (tS C W io (denS g m))
  | .pass, X, C, W, k, g, io, gs, s, h => by
    unfold chkS at h
    split at h
    · exact ps_passM
    · exact ps_docM
    · cases h
  | .brk, X, C, W, k, g, io, gs, s, h => by
    unfold chkS at h
    split at h
    · exact ps_breakM
    · cases h
  | .cnt, X, C, W, k, g, io, gs, s, h => by
    unfold chkS at h
    split at h
    · exact ps_contM
    · cases h
  | .drop m, X, C, W, k, g, io, gs, s, h => by
    unfold chkS at h
    split at h
    · rw [Bool.and_eq_true] at h
      exact ps_dropM ((sound m gs.toGd _).pe h.2) h.1
    · cases h
  | .ret m, X, C, W, k, g, io, gs, s, h => by
    unfold chkS at h
    split at h
    · exact ps_retM ((sound m gs.toGd _).pe h)
    · cases h
  | .retN, X, C, W, k, g, io, gs, s, h => by
    unfold chkS at h
    split at h
    · exact ps_retNM
    · cases h
  | .retV i, X, C, W, k, g, io, gs, s, h => by
    unfold chkS at h
    split at h
    · rw [Bool.and_eq_true, Bool.not_eq_true'] at h
      obtain ⟨a, b, c, d⟩ := chkV_of gs.toGd h.1
      exact ps_retVM a b c d (not_io h.2)
    · cases h
  | .set ow i m, X, C, W, k, g, io, gs, s, h => by
    unfold chkS at h
    split at h
    · next x px e p =>
      simp only [Bool.and_eq_true, decide_eq_true_eq, Bool.not_eq_true', Bool.or_eq_true] at h
      obtain ⟨h1, h2, h3, h4, h5⟩ := h
      rw [← gs.hN] at h1
      rw [← gs.sc, ← gs.fn] at h2
      rcases h5 with ⟨h5, h6⟩ | h5
      · cases e <;> first | (simp [isLC] at h5; done) | skip
        exact (sound m gs.toGd _).pc h4 _ _ _ _ _ _ _ _ _ _ rfl h1 h2 (isFun_of (by rw [gs.sc]; exact h6)) (not_io h3)
      · obtain ⟨s1, s2⟩ := stoOk_loc h2
        exact ps_setM gs.nd h1 s1 s2 ((sound m gs.toGd _).pe h4) h5 (not_io h3)
    · cases h
  | .unp t m, X, C, W, k, g, io, gs, s, h => by
    unfold chkS at h
    split at h
    · simp only [Bool.and_eq_true, List.all_eq_true, Bool.not_eq_true'] at h
      obtain ⟨⟨hcm, h1⟩, h2, h3, h4, h5⟩ := h
      exact ps_unpM gs.hK ((sound m gs.toGd _).pe h5) (pg_of gs.nd (gs.calm hcm) (by rw [gs.hN, gs.sc, gs.fn]; exact h1)) h3 h4 fun i hi => not_io (h2 i hi)
    · cases h
  | .ite c a b, X, C, W, k, g, io, gs, s, h => by
    unfold chkS at h
    split at h
    · simp only [Bool.and_eq_true] at h
      exact ps_ifM ((sound c gs.toGd _).pt h.1).1 (soundB a gs _ h.2.1) (soundB b gs _ h.2.2)
    · cases h
  | .fore t m b, X, C, W, k, g, io, gs, s, h => by
    unfold chkS at h
    split at h
    · simp only [Bool.and_eq_true, List.all_eq_true, Bool.not_eq_true'] at h
      obtain ⟨⟨hcm, h1⟩, h2, h3, h4, h5⟩ := h
      exact ps_forM gs.hK gs.po (gs.calm hcm) ((sound m gs.toGd _).ps h4 _ true) (pg_of gs.nd (gs.calm hcm) (by rw [gs.hN, gs.sc, gs.fn]; exact h1)) (soundB b gs _ h5) h3 fun i hi => not_io (h2 i hi)
    · cases h
  | .whl n c b, X, C, W, k, g, io, gs, s, h => by
    unfold chkS at h
    split at h
    · simp only [Bool.and_eq_true] at h
      exact ps_whileM gs.po ((sound c gs.toGd _).pt h.1).1 (soundB b gs _ h.2)
    · cases h
  | .app i m, X, C, W, k, g, io, gs, s, h => by
    unfold chkS at h
    split at h
    · simp only [Bool.and_eq_true, decide_eq_true_eq] at h
      obtain ⟨rfl, h2, h3, h4, h5⟩ := h
      obtain ⟨a, b, c, d⟩ := chkV_of gs.toGd h2
      exact ps_appM a b c d ((sound m gs.toGd _).pe h5) h3 h4
    · cases h
  | .ext i m, X, C, W, k, g, io, gs, s, h => by
    unfold chkS at h
    split at h
    · simp only [Bool.and_eq_true, decide_eq_true_eq] at h
      obtain ⟨rfl, h2, h3, h4, h5⟩ := h
      obtain ⟨a, b, c, d⟩ := chkV_of gs.toGd h2
      exact ps_extM a b c d ((sound m gs.toGd _).pe h5) h3 h4
    · cases h
  | .clr i, X, C, W, k, g, io, gs, s, h => by
    unfold chkS at h
    split at h
    · simp only [Bool.and_eq_true, decide_eq_true_eq] at h
      obtain ⟨rfl, h2, h4⟩ := h
      obtain ⟨a, b, c, d⟩ := chkV_of gs.toGd h2
      exact ps_clrM a b c d h4
    · cases h
  | .dput i ma mb, X, C, W, k, g, io, gs, s, h => by
    unfold chkS at h
    split at h
    · simp only [Bool.and_eq_true] at h
      obtain ⟨h2, h3, h4, h5⟩ := h
      obtain ⟨a, b, c, d⟩ := chkV_of gs.toGd h2
      exact ps_dputM gs.un a b c d ((sound ma gs.toGd _).pe h4) ((sound mb gs.toGd _).pe h5) h3
    · cases h
  | .frz i, X, C, W, k, g, io, gs, s, h => by
    unfold chkS at h
    cases h
  | .lend i t b, X, C, W, k, g, io, gs, s, h => by
    unfold chkS at h
    split at h
    · simp only [Bool.and_eq_true, List.all_eq_true, Bool.not_eq_true'] at h
      obtain ⟨h1, h2, ⟨hcm, h3⟩, h4, h5⟩ := h
      obtain ⟨a, b', c, d⟩ := chkV_of gs.toGd h1
      exact ps_lendM gs.hK gs.po (gs.calm hcm) a b' c d (pg_of gs.nd (gs.calm hcm) (by rw [gs.hN, gs.sc, gs.fn]; exact h3)) (soundB b gs _ h5) (fun i hi => not_io (h4 i hi)) (not_io h2)
    · cases h
  | .callO ret f es p j, X, C, W, k, g, io, gs, s, h => by
    unfold chkS at h
    split at h
    · simp only [Bool.and_eq_true, decide_eq_true_eq] at h
      obtain ⟨h1, h2, h3, h4, h5⟩ := h
      rw [← gs.sc] at h2
      obtain ⟨q1, q2⟩ := soundO gs.toGd p es _ h5
      exact ps_callOM gs.tk (gs.os _ _ _ _ h1) (glo_of h2) (okName_of h3).1 q1 h4 (dens_len g es) q2
    · next i =>
      simp only [Bool.and_eq_true, decide_eq_true_eq, Bool.not_eq_true', beq_eq_false_iff_ne] at h
      obtain ⟨a1, a2, a3, a4, h1, h2, h3, h4, h5⟩ := h
      rw [← gs.sc] at h2
      rw [← gs.hN] at a1
      rw [← gs.sc, ← gs.fn] at a2
      obtain ⟨s1, s2⟩ := stoOk_loc a2
      obtain ⟨q1, q2⟩ := soundO gs.toGd p es _ h5
      exact ps_setCallOM gs.nd a1 s1 s2 (not_io a3) a4 gs.tk (gs.os _ _ _ _ h1) (glo_of h2) (okName_of h3).1 q1 h4 (dens_len g es) q2
    · cases h
  | .raise j, X, C, W, k, g, io, gs, s, h => by
    unfold chkS at h
    split at h
    · simp only [Bool.and_eq_true, decide_eq_true_eq] at h
      obtain ⟨h1, h2, h3, h4⟩ := h
      rw [← gs.sc] at h3
      exact ps_raiseM (gs.calm h1) gs.tk (glo_of h3) (okName_of h4).1 (gs.xc _ _ h2)
    · cases h
  | .tryM b js ss, X, C, W, k, g, io, gs, s, h => by
    unfold chkS at h
    split at h
    · rw [Bool.and_eq_true] at h
      exact ps_tryM gs.hs gs.hf gs.tk gs.xm (fun W' pn xe tk po => soundB b (gs.tr tk po) _ h.1) (soundL ss gs js _ h.2)
    · cases h
theorem soundL : ∀ (ss : List (List Sm)) {X C W k g io} (_ : Gs X C W k g) (js : List Nat) (hds : List ExceptHandler), chkL ss js k io hds = true → HdsM X C io hds (js.zip (denL g ss))
  | [], X, C, W, k, g, io, gs, js, hds, h => by
    unfold chkL at h
    rw [Bool.and_eq_true, List.isEmpty_iff, List.isEmpty_iff] at h
    obtain ⟨rfl, rfl⟩ := h
    exact .nil
  | s :: ss, X, C, W, k, g, io, gs, js, hds, h => by
    unfold chkL at h
    split at h
    · simp only [Bool.and_eq_true, decide_eq_true_eq] at h
      obtain ⟨h1, h2, h3, h4, h5⟩ := h
      rw [← gs.sc] at h2
      rw [denL]
      exact .cons ⟨glo_of h2, (okName_of h3).1, .inl (gs.xc _ _ h1).mg⟩ (fun a pn => soundB s (gs.sui a pn) _ h4) (soundL ss gs _ _ h5)
    · cases h
theorem soundB : ∀ (ms : List Sm) {X C W k g io} (_ : Gs X C W k g) (sts : List Stmt), chkB ms k io sts = true → PSs X sts (tS C W io (denB g ms))
  | [], X, C, W, k, g, io, gs, sts, h => by
    unfold chkB at h
    rw [List.isEmpty_iff] at h
    subst h
    unfold denB
    exact pss_nilM
  | m :: ms, X, C, W, k, g, io, gs, sts, h => by
    unfold chkB at h
    unfold denB
    split at h
    · next i e =>
      rw [Bool.and_eq_true, Bool.not_eq_true'] at h
      cases m <;> first | (simp [isFrz] at e; done) | skip
      simp only [isFrz, Option.some.injEq] at e
      subst e
      unfold denS
      exact pss_frzM (not_io h.1) (soundB ms gs sts h.2)
    · split at h
      · rw [Bool.and_eq_true] at h
        exact pss_consM (soundS m gs _ h.1) (soundB ms gs _ h.2)
      · cases h
end

/-! ### defs in words -/
/-- io: the parameter whose list it changes -/
structure Df where
  ps : Nat
  N : List Str
  body : List Sm
  io : Option Nat
def st0 (F : Df) (rs : List R) : Env := rs.map some ++ List.replicate (F.N.length - F.ps) none
def runO (g : G) (F : Df) (rs : List R) : Out := if rs.length = F.ps then denB g F.body (st0 F rs) else .stuck
def runD (g : G) (F : Df) (rs : List R) : Res R := (runO g F rs).fin
/-- what a text's names mean: its constants, which class of errors is one of which -/
structure Mn where
  glo : List (Str × R)
  sub : Nat → Nat → Option Bool
/-- n calls deep -/
def rnO (T : List Df) (M : Mn) : Nat → Nat → List R → Out
  | 0, _, _ => .stuck
  | n + 1, f, rs => match T[f]? with
    | some F => runO ⟨rnO T M n, M.glo, M.sub⟩ F rs
    | none => .stuck
def rn (T : List Df) (M : Mn) (n f : Nat) (rs : List R) : Res R := (rnO T M n f rs).fin
theorem XP.less {H : Hp} {P P' : Addr → Prop} {d : Option Addr} {pl : List (Str × D)} (n : ∀ a, P' a → P a) (h : XP H P d pl) : XP H P' d pl :=
  h.imp id fun ⟨dd, fs, e1, e2, e3, r⟩ => ⟨dd, fs, e1, e2, e3, r.less n⟩
theorem start_get {F : Df} {rs : List R} {i : Nat} {r : R} (h : (st0 F rs)[i]? = some (some r)) : rs[i]? = some r := by
  unfold st0 at h
  by_cases hi : i < rs.length
  · rw [List.getElem?_append_left (by simpa using hi), List.getElem?_map] at h
    cases e : rs[i]? with
    | none => rw [e] at h; cases h
    | some a => rw [e] at h; cases h; rfl
  · rw [List.getElem?_append_right (by simpa using hi), List.getElem?_replicate] at h
    split at h <;> cases h
theorem paired_get {α β : Type} {F : α → β → Prop} : ∀ {vs : List α} {rs : List β} {i : Nat} {r : β}, Paired F vs rs → rs[i]? = some r → ∃ v, vs[i]? = some v ∧ F v r
  | _, _, _, _, .nil, e => by simp at e
  | _, _, 0, _, .cons h _, e => by simp at e; subst e; exact ⟨_, rfl, h⟩
  | _, _, i + 1, _, .cons _ t, e => by
    obtain ⟨v, h1, h2⟩ := paired_get (i := i) t (by simpa using e)
    exact ⟨v, by simpa using h1, h2⟩
end Mp

namespace Mp
open PySem L2

/-! ### a def keeps its promise -/
theorem Lent.toB {K : PySem.W.Frag} {H : Hp} {B P : Addr → Prop} {v : V} {d : D} (h : Lent K H P v d) (nB : ∀ a, ¬ B a) : LentB K H B P v d := by
  cases d with
  | lst ds => obtain ⟨a, vs, h1, h2, r⟩ := h; exact ⟨a, vs, h1, h2.imp (fun z => ⟨nB a, z⟩) (fun z _ => .inr z), r⟩
  | tup ds => obtain ⟨a, vs, h1, h2, r⟩ := h; exact ⟨a, vs, h1, h2.imp (fun z => ⟨nB a, z⟩) (fun z _ => .inr z), r⟩
  | dct tk ks ds =>
    cases tk with
    | false => obtain ⟨a, vs, h1, h2, h3, h4, r⟩ := h; exact ⟨a, vs, h1, nB a, h2, h3, h4, r⟩
    | true => obtain ⟨a, vs, h1, h2, h3, h4, r⟩ := h; exact ⟨a, vs, h1, nB a, h2, h3, h4, r⟩
  | _ => exact False.elim h
def noC : Nat → List Addr := fun _ => []
theorem noC_cel (a : Addr) : ¬ Cel noC a := fun ⟨_, h⟩ => by cases h
theorem noC_own {S : Addr → Prop} {a : Addr} : Mp.Own noC S a → S a := fun h => h.elim (fun z => (noC_cel a z).elim) id
theorem start_len {F : Df} {rs : List R} (hl : rs.length = F.ps) (h : F.ps ≤ F.N.length) : (st0 F rs).length = F.N.length := by
  unfold st0
  rw [List.length_append, List.length_map, List.length_replicate]
  omega
theorem SR.start {K : PySem.W.Frag} {H : Hp} {P : Addr → Prop} {F : Df} {vs : List V} {rs : List R} (hP : ∀ a, P a → ∃ o, H a = some o) (hr : Paired (AR K H P) vs rs) (hl : rs.length = F.ps) (hN : F.ps ≤ F.N.length) : SR K (L2.start F.N vs) H (st0 F rs) noC P where
  len := by
    rw [start_len hl hN]
    unfold L2.start
    rw [List.length_append, List.length_map, List.length_replicate, Paired.length hr]
    omega
  rep := fun i r e => by
    obtain ⟨v, h1, h2⟩ := paired_get hr (start_get e)
    refine ⟨v, ?_, ?_⟩
    · unfold L2.start
      rw [List.getElem?_append_left (by rw [List.length_map]; exact (List.getElem?_eq_some_iff.mp h1).1), List.getElem?_map, h1]
      rfl
    · cases r with
      | val d => exact ⟨rfl, Rp.less (fun _ z => noC_own z) h2⟩
      | bor d => exact ⟨rfl, Lent.toB (Lent.less (fun _ z => noC_own z) h2) noC_cel⟩
      | own d => exact h2.elim
  off := fun _ _ => rfl
  dis := fun _ _ _ h => by cases h
  sep := fun _ _ h => by cases h
  trk := fun a z => hP a (noC_own z)
/-- the start of a def that changes its p-th argument -/
def oneC (p : Nat) (a : Addr) : Nat → List Addr := fun i => if i = p then [a] else []
theorem oneC_cel {p : Nat} {a x : Addr} : Cel (oneC p a) x ↔ x = a := by
  constructor
  · rintro ⟨i, h⟩
    unfold oneC at h
    split at h
    · simpa using h
    · cases h
  · intro h
    subst h
    exact ⟨p, by unfold oneC; rw [if_pos rfl]; simp⟩
theorem oneC_own {p : Nat} {a : Addr} {S : Addr → Prop} : Mp.Own (oneC p a) S = fun b => S b ∨ b = a := by
  funext b
  apply propext
  constructor
  · rintro (z | z)
    · exact .inr (oneC_cel.mp z)
    · exact .inl z
  · rintro (z | z)
    · exact .inr z
    · exact .inl (oneC_cel.mpr z)
theorem oneC_abr {p : Nat} {a : Addr} {S : Addr → Prop} : Abr [p] (oneC p a) S = fun b => S b ∨ b = a := by
  rw [← oneC_own (p := p)]
  funext b
  apply propext
  constructor
  · exact Abr.own
  · rintro (⟨i, z⟩ | z)
    · refine .inr ⟨p, by simp, ?_⟩
      have := oneC_cel.mp ⟨i, z⟩
      subst this
      unfold oneC
      rw [if_pos rfl]
      simp
    · exact .inl z
theorem SR.startO {K : PySem.W.Frag} {H : Hp} {P : Addr → Prop} {F : Df} {vs : List V} {rs : List R} {a : Addr} {d : D} {p : Nat} (hP : ∀ a, P a → ∃ o, H a = some o) (na : ¬ P a) (hv : vs[p]? = some (.ref a)) (hr : rs[p]? = some (.own d)) (hc : Cell H (fun b => P b ∨ b = a) a d)
    (ho : ∀ (i : Nat) (r : R), i ≠ p → rs[i]? = some r → ∃ v dd, vs[i]? = some v ∧ r = R.val dd ∧ Rp H (fun b => P b ∨ b = a) v dd) (hl : rs.length = F.ps) (hl2 : vs.length = F.ps) (hN : F.ps ≤ F.N.length) : SR K (L2.start F.N vs) H (st0 F rs) (oneC p a) P where
  len := by
    rw [start_len hl hN]
    unfold L2.start
    rw [List.length_append, List.length_map, List.length_replicate]
    omega
  rep := fun i r e => by
    have e' := start_get e
    have get : ∀ {v : V}, vs[i]? = some v → (L2.start F.N vs)[i]? = some (some v) := fun {v} h1 => by
      unfold L2.start
      rw [List.getElem?_append_left (by rw [List.length_map]; exact (List.getElem?_eq_some_iff.mp h1).1), List.getElem?_map, h1]
      rfl
    rw [oneC_own]
    by_cases hi : i = p
    · subst hi
      rw [hr] at e'
      cases e'
      exact ⟨.ref a, get hv, a, rfl, by unfold oneC; rw [if_pos rfl], hc⟩
    · obtain ⟨v, dd, h1, rfl, h2⟩ := ho i r hi e'
      exact ⟨v, get h1, by unfold oneC; rw [if_neg hi], h2⟩
  off := fun i e => by
    unfold oneC
    split
    · next hi =>
      subst hi
      refine absurd ?_ (e (.own d))
      unfold st0
      rw [List.getElem?_append_left (by rw [List.length_map]; exact (List.getElem?_eq_some_iff.mp hr).1), List.getElem?_map, hr]
      rfl
    · rfl
  dis := fun i j x h1 h2 => by
    unfold oneC at h1 h2
    split at h1
    · next e1 =>
      split at h2
      · next e2 => rw [e1, e2]
      · cases h2
    · cases h1
  sep := fun i x h => by
    have := oneC_cel.mp ⟨i, h⟩
    subst this
    exact na
  trk := fun x z => by
    rw [oneC_own] at z
    rcases z with z | z
    · exact hP x z
    · subst z; exact hc.there
/-- names: checked -/
def scopeB (N ps : List Str) (sc : Scope) : Bool :=
  isFun sc && (!sc.isCoroutine && (!sc.isGenerator && (decide N.Nodup && (decide (N.take ps.length = ps) && (ps.all (fun x => match sc.names.lookup x with | some .local => true | some .cell => true | _ => false) && sc.names.all fun y => match y.2 with | .free => false | _ => true)))))
theorem scope_by {N ps : List Str} {sc : Scope} (h : scopeB N ps sc = true) : FnScope N ps sc := by
  unfold scopeB at h
  simp only [Bool.and_eq_true, Bool.not_eq_true', decide_eq_true_eq, List.all_eq_true] at h
  obtain ⟨h1, h2, h3, h4, h5, h6, h7⟩ := h
  refine ⟨isFun_of h1, h2, h3, h4, h5, fun x hx => ?_, fun y hy e => ?_⟩
  · have q := h6 x hx
    split at q <;> first | exact .inl (by assumption) | exact .inr (by assumption) | cases q
  · have q := h7 y hy
    rw [e] at q
    cases q
/-- a def as it stands in the text, by its words -/
structure Txt (K : PySem.W.Frag) (mg : Str → Option Value) (x : Str) (st : Stmt) (f : Addr) (fd : FuncData) (ps : List Str) : Prop where
  fn : Fun K x x st f fd
  mg : mg x = some (.ref f)
  bd : Binds K fd ps []
/-- an own class of errors, as it stands in the text -/
structure ExcK (K : PySem.W.Frag) (mg : Str → Option Value) (x : Str) (a : Addr) : Prop where
  mg : mg x = some (.ref a)
  kp : PySem.W.keepIn K (.ref a) = true
  sub : PySem.W.subIn K (.ref a) (.type "BaseException") = some true
  ty : PySem.W.typeIn K (.ref a) = some (.type "type")
  ex : ∃ (B newId initId : String) (bmB : List Value), ExcBaseFacts B newId initId bmB ∧ PySem.W.excIn K a bmB newId = true
/-- the words of a def fit its text -/
def Df.ios (F : Df) : List Nat := match F.io with
  | some p => [p]
  | none => []
def defB (F : Df) (ps : List Str) (fs : List (Str × (Nat × Nat))) (os : List (Str × (Nat × Nat × Nat))) (bs : List Str) (xs : List (Str × Nat)) (st : Stmt) : Bool :=
  decide (ps.length = F.ps) && (scopeB F.N ps (defScope st) && chkB F.body ⟨F.N, defScope st, fun _ => true, fs, os, bs, xs, true⟩ F.ios (defBody st))
/-- what a def in words promises -/
def spF (C : Cn) (F : Df) (run : List R → Out) : Sp := match F.io with
  | none => spP C F.ps fun rs => (run rs).fin
  | some p => spO C F.ps p run
theorem spF_len {C : Cn} {F : Df} {run : List R → Out} {vs : List V} {H : Hp} {Q : VK} {E : XK} (h : spF C F run vs H Q E) : vs.length = F.ps := by
  unfold spF at h
  cases e : F.io with
  | none => rw [e] at h; exact h.1
  | some p => rw [e] at h; exact h.1
section
variable {P : Program} {w : World} {K : PySem.W.Frag} {mg : Str → Option Value} {base : Heap}
theorem fn_ok {x : Str} {st : Stmt} {f : Addr} {fd : FuncData} {ps : List Str} {F : Df} {C : Cn} {g : G} {k : Nat} {fs : List (Str × (Nat × Nat))} {os : List (Str × (Nat × Nat × Nat))} {bs : List Str} {xs : List (Str × Nat)} (T : Txt K mg x st f fd ps) (hC : C.K = K) (hd : defB F ps fs os bs xs st = true)
    (hbs : ∀ x, bs.contains x = true → mg x = none) (hfs : ∀ x f n, fs.lookup x = some (f, n) → ∃ (f' : Addr) (fd : FuncData) (ps : List Str), FnOk P w K mg base (L2.CX P w) k f' fd ps (spP C n (g.run f)) ∧ mg x = some (.ref f') ∧ PySem.W.keepIn K (.ref f') = true ∧ Binds K fd ps [])
    (hos : ∀ x f n p, os.lookup x = some (f, n, p) → ∃ (f' : Addr) (fd : FuncData) (ps : List Str), FnOk P w K mg base (L2.CX P w) k f' fd ps (spO C n p (g.runO f)) ∧ mg x = some (.ref f') ∧ PySem.W.keepIn K (.ref f') = true ∧ Binds K fd ps [])
    (hxc : ∀ x j, xs.lookup x = some j → ExcK K mg x (C.ca j)) (hxm : ∀ i j b, g.sub i j = some b → PySem.W.exmOne K (.ref (C.ca i)) (.ref (C.ca j)) = some b)
    (hgl : ∀ x r, g.glo.lookup x = some r → ∃ v u, mg x = some u ∧ RelV v u ∧ ∀ H0 H P, RR C.K H0 H P v r) : FnOk P w K mg base (L2.CX P w) (k + 1) f fd ps (spF C F (runO g F)) := by
  unfold defB at hd
  rw [Bool.and_eq_true, Bool.and_eq_true, decide_eq_true_eq] at hd
  obtain ⟨hps, hsc, hb⟩ := hd
  have S := scope_by hsc
  have hle : F.ps ≤ F.N.length := by have := congrArg List.length S.pre; rw [List.length_take, hps] at this; omega
  refine T.fn.okX S (fun vs H Q E h => by rw [hps]; exact spF_len h) fun cdv A outer s H vs Q E hr h => ?_
  have gs : Gs (cxOf (L2.CX P w) P w K mg base F.N x (defScope st) f cdv A outer s H E) C (fun cls d _ H => E cls d H) ⟨F.N, defScope st, fun _ => true, fs, os, bs, xs, true⟩ g := {
    hK := hC.symm, hN := rfl, nd := S.nd, sc := rfl, fn := rfl, calm := fun _ => rfl
    xc := fun x j e => let z := hxc x j e; ⟨z.mg, z.kp, z.sub, z.ty, z.ex⟩
    xm := hxm
    hs := rfl
    hf := rfl
    un := (by have := hr.un; show (A.deeper _).units + 200 < cLine; omega)
    tk := takes_of rfl rfl rfl rfl
    bs := hbs
    fs := fun x f n e => let ⟨f', fd, ps, h1, h2, h3, h4⟩ := hfs x f n e; ⟨k, f', fd, ps, h1, hr, h2, h3, h4⟩
    os := fun x f n p e => let ⟨f', fd, ps, h1, h2, h3, h4⟩ := hos x f n p e; ⟨k, f', fd, ps, h1, hr, h2, h3, h4⟩
    gl := hgl
    po := passes_of rfl }
  refine ⟨_, soundB F.body gs (defBody st) hb, ?_⟩
  unfold spF at h
  unfold Df.ios
  cases hio : F.io with
  | none =>
    rw [hio] at h
    obtain ⟨hl, rs, P', hP, hrs, hq⟩ := h
    have hl2 : rs.length = F.ps := by rw [← Paired.length hrs]; exact hl
    refine ⟨st0 F rs, noC, P', SR.start hP hrs hl2 hle, ?_⟩
    simp only [runO] at hq
    rw [if_pos hl2] at hq
    have ex : ∀ {σ' : L2.St} {ρ' : Mp.Env} {c' : Nat → List Addr} {H' : Hp}, Stp [] (L2.start F.N vs) (st0 F rs) noC H σ' ρ' c' H' → Ex H H' := fun st a o q => st.fr a o (noC_cel a) q
    have ab : Abr [] noC P' = P' := by
      funext b
      apply propext
      exact ⟨fun z => z.elim id fun ⟨_, z, _⟩ => by (cases z), .inl⟩
    cases e : denB g F.body (st0 F rs) with
    | stuck => rw [e] at hq; exact hq.elim
    | bk ρ => rw [e] at hq; exact hq.elim
    | ct ρ => rw [e] at hq; exact hq.elim
    | nx ρ =>
      rw [e] at hq
      exact fun σ' H' c' a b => hq .non H' (ex b) (by simp [RR, Rp])
    | rt r ρ =>
      rw [e] at hq
      refine fun v σ' H' c' a b d => hq v H' (ex b) ?_
      unfold RT at d
      rw [ab] at d
      cases r with
      | val d' => exact d
      | own d' => obtain ⟨y, e1, e2, e3, e4⟩ := d; exact ⟨y, e1, e2.elim (fun z => (noC_cel y z).elim) id, e3, e4⟩
      | bor d' => exact d
    | ex c pl ρ =>
      rw [e] at hq
      exact fun σ' H' c' d a b x => hq H' d (ex b) (x.less fun _ z => .inr z)
  | some p =>
    rw [hio] at h
    obtain ⟨hl, rs, P', a, d, hP, na, hv, hr, hc, hl2, ho, hq⟩ := h
    refine ⟨st0 F rs, oneC p a, P', SR.startO hP na hv hr hc ho hl2 hl hle, ?_⟩
    unfold runO at hq
    rw [if_pos hl2] at hq
    have fr : ∀ {σ' : L2.St} {ρ' : Mp.Env} {c' : Nat → List Addr} {H' : Hp}, Stp [p] (L2.start F.N vs) (st0 F rs) (oneC p a) H σ' ρ' c' H' → Fr (fun x => x = a) H H' := fun st y o n q => st.fr y o (fun z => n (oneC_cel.mp z)) q
    have cell : ∀ {σ' : L2.St} {ρ' : Mp.Env} {c' : Nat → List Addr} {H' : Hp} {d' : D}, SR C.K σ' H' ρ' c' P' → Stp [p] (L2.start F.N vs) (st0 F rs) (oneC p a) H σ' ρ' c' H' → ρ'[p]? = some (some (.own d')) → Cell H' (fun b => P' b ∨ b = a) a d' := fun {σ' ρ' c' H' d'} sr st e => by
      obtain ⟨v, h1, y, rfl, h2, h3⟩ := sr.rep p _ e
      have h4 := st.io p (by simp)
      rw [h2] at h4
      unfold oneC at h4
      rw [if_pos rfl] at h4
      cases h4
      refine h3.less fun b z => ?_
      rcases z with z | z
      · exact .inr z
      · subst z; exact .inl ⟨p, by rw [h2]; simp⟩
    cases e : denB g F.body (st0 F rs) with
    | stuck => rw [e] at hq; exact hq.elim
    | bk ρ => rw [e] at hq; exact hq.elim
    | ct ρ => rw [e] at hq; exact hq.elim
    | ex c pl ρ => rw [e] at hq; exact hq.elim
    | nx ρ =>
      rw [e] at hq
      obtain ⟨d', e1, q⟩ := hq
      exact fun σ' H' c' x y => q H' (fr y) y.tr (cell x y e1)
    | rt r ρ =>
      rw [e] at hq
      obtain ⟨d', e1, q⟩ := hq
      refine fun v σ' H' c' x y z => q v H' (fr y) y.tr (cell x y e1) ?_
      unfold RT at z
      rw [oneC_abr] at z
      cases r with
      | val d' => exact z
      | own d' => obtain ⟨y', e1, e2, e3, e4⟩ := z; exact ⟨y', e1, e2.elim (fun z => absurd (.inr (oneC_cel.mp z)) e3) id, e3, e4⟩
      | bor d' => exact z
/-- no call is left -/
theorem fn_none {f : Addr} {fd : FuncData} {ps : List Str} {F : Df} {C : Cn} {CX : CXT} : FnOk P w K mg base CX 0 f fd ps (spF C F fun _ => .stuck) := by
  have no : ∀ vs H Q E, ¬ spF C F (fun _ => .stuck) vs H Q E := fun vs H Q E h => by
    unfold spF at h
    cases e : F.io with
    | none => rw [e] at h; obtain ⟨_, _, _, _, _, z⟩ := h; exact z.elim
    | some p => rw [e] at h; obtain ⟨_, _, _, _, _, _, _, _, _, _, _, _, z⟩ := h; exact z.elim
  exact ⟨fun vs H Q E h => (no _ _ _ _ h).elim, fun A outer s H args us vs Q E _ _ _ _ h => (no _ _ _ _ h).elim⟩
/-- a def of the table: its name, its parameters -/
structure Row where
  nm : Str
  ps : List Str
  st : Stmt
/-- the whole text fits -/
def tabB (T : List Df) (rows : List Row) (fs : List (Str × (Nat × Nat))) (os : List (Str × (Nat × Nat × Nat))) (bs : List Str) (xs : List (Str × Nat)) : Bool :=
  decide (T.length = rows.length) && ((T.zip rows).all fun p => defB p.1 p.2.ps fs os bs xs p.2.st)
def fsOk (T : List Df) (rows : List Row) (fs : List (Str × (Nat × Nat))) (os : List (Str × (Nat × Nat × Nat))) : Bool := (fs.all fun p => match T[p.2.1]?, rows[p.2.1]? with
  | some F, some r => decide (r.nm = p.1) && (decide (F.ps = p.2.2) && F.io.isNone)
  | _, _ => false) && os.all fun p => match T[p.2.1]?, rows[p.2.1]? with
  | some F, some r => decide (r.nm = p.1) && (decide (F.ps = p.2.2.1) && decide (F.io = some p.2.2.2))
  | _, _ => false
theorem lookup_mem {α : Type} : ∀ {l : List (Str × α)} {x : Str} {v : α}, l.lookup x = some v → (x, v) ∈ l
  | (y, w) :: l, x, v, h => by
    rw [List.lookup_cons] at h
    split at h
    · next e => cases h; rw [eq_of_beq e]; exact List.mem_cons_self
    · exact List.mem_cons_of_mem _ (lookup_mem h)
/-- THE RULE: every def of the table keeps its promise, n calls deep -/
theorem tab_ok {T : List Df} {rows : List Row} {fs : List (Str × (Nat × Nat))} {os : List (Str × (Nat × Nat × Nat))} {bs : List Str} {xs : List (Str × Nat)} {C : Cn} {M : Mn} (hC : C.K = K) (ht : tabB T rows fs os bs xs = true) (hf : fsOk T rows fs os = true)
    (tx : ∀ (i : Nat) (r : Row), rows[i]? = some r → ∃ f fd, Txt K mg r.nm r.st f fd r.ps) (hbs : ∀ x, bs.contains x = true → mg x = none) (hxc : ∀ x j, xs.lookup x = some j → ExcK K mg x (C.ca j)) (hxm : ∀ i j b, M.sub i j = some b → PySem.W.exmOne K (.ref (C.ca i)) (.ref (C.ca j)) = some b)
    (hgl : ∀ x r, M.glo.lookup x = some r → ∃ v u, mg x = some u ∧ RelV v u ∧ ∀ H0 H P, RR C.K H0 H P v r) :
    ∀ (n i : Nat) (r : Row) (F : Df), rows[i]? = some r → T[i]? = some F → ∀ f fd, Txt K mg r.nm r.st f fd r.ps → FnOk P w K mg base (L2.CX P w) n f fd r.ps (spF C F (rnO T M n i)) := by
  unfold tabB at ht
  rw [Bool.and_eq_true, decide_eq_true_eq, List.all_eq_true] at ht
  unfold fsOk at hf
  rw [Bool.and_eq_true] at hf
  intro n
  induction n with
  | zero => intro i r F _ _ f fd _; exact fn_none
  | succ n ih =>
    intro i r F hr hF f fd tf
    have hd := ht.2 (F, r) (by
      refine List.mem_of_getElem? (i := i) ?_
      rw [List.getElem?_zip_eq_some]
      exact ⟨hF, hr⟩)
    have := fn_ok (P := P) (w := w) (base := base) (g := ⟨rnO T M n, M.glo, M.sub⟩) (k := n) tf hC hd hbs (fun x j m e => ?_) (fun x j m p e => ?_) hxc hxm hgl
    · refine this.imp fun vs H Q E h => ?_
      have e : rnO T M (n + 1) i = runO ⟨rnO T M n, M.glo, M.sub⟩ F := by funext rs; rw [rnO, hF]
      rw [e] at h
      exact h
    · have q := (List.all_eq_true.mp hf.1) _ (lookup_mem e)
      split at q
      · next F' r' e1 e2 =>
        rw [Bool.and_eq_true, Bool.and_eq_true, decide_eq_true_eq, decide_eq_true_eq, Option.isNone_iff_eq_none] at q
        obtain ⟨q1, q2, q3⟩ := q
        obtain ⟨f', fd', t'⟩ := tx _ _ e2
        have := ih j r' F' e2 e1 f' fd' t'
        dsimp only at q1 q2
        rw [← q2, ← q1]
        refine ⟨f', fd', r'.ps, this.imp fun vs H Q E h => ?_, t'.mg, t'.fn.kp, t'.bd⟩
        unfold spF
        rw [q3]
        exact h
      · cases q
    · have q := (List.all_eq_true.mp hf.2) _ (lookup_mem e)
      split at q
      · next F' r' e1 e2 =>
        rw [Bool.and_eq_true, Bool.and_eq_true, decide_eq_true_eq, decide_eq_true_eq, decide_eq_true_eq] at q
        obtain ⟨q1, q2, q3⟩ := q
        obtain ⟨f', fd', t'⟩ := tx _ _ e2
        have := ih j r' F' e2 e1 f' fd' t'
        dsimp only at q1 q2 q3
        rw [← q2, ← q1]
        refine ⟨f', fd', r'.ps, this.imp fun vs H Q E h => ?_, t'.mg, t'.fn.kp, t'.bd⟩
        unfold spF
        rw [q3]
        exact h
      · cases q
end

/-! ### the law's promise -/
def spLaw (K : PySem.W.Frag) : Sp := fun vs H Q _ => ∃ (a : Addr) (ns : List Int), vs = [.ref a] ∧ SqL K H a (ns.map V.int) ∧ ns.length ≤ 63 ∧ ∀ H', Q (.bl true) H'
theorem sp_law {C : Cn} {f : List R → Res R} (h : ∀ ns : List Int, ns.length ≤ 63 → f [.bor (.lst (ns.map D.int))] = .ok (.val (.bl true))) : ∀ vs H Q E, spLaw C.K vs H Q E → spP C 1 f vs H Q E := fun vs H Q E ⟨a, ns, e, q, l, z⟩ => by
  subst e
  refine ⟨rfl, [.bor (.lst (ns.map D.int))], fun _ => False, fun _ w => w.elim, .cons ⟨a, ns.map V.int, rfl, q, Rps.ints ns⟩ .nil, ?_⟩
  rw [h ns l]
  intro v H' _ r
  have : v = .bl true := by simpa [RR, Rp] using r
  subst this
  exact z H'
/-! ### the text at the top -/
theorem cx_none {P : Program} {w : World} {H : Hp} {s : Shared} {e : Value} {s' : Shared} (h : L2.CX P w [] H s (fun _ _ _ => False) e s') : False := by
  obtain ⟨_, _, _, _, _, _, _, _, _, _, _, _, z⟩ := h
  exact z.elim
section
variable {K : PySem.W.Frag} {mg : Str → Option Value}
theorem tx_nil : ∀ (i : Nat) (r : Row), ([] : List Row)[i]? = some r → ∃ f fd, Txt K mg r.nm r.st f fd r.ps := fun i r h => by simp at h
theorem tx_cons {r : Row} {rs : List Row} (t : ∃ f fd, Txt K mg r.nm r.st f fd r.ps) (ts : ∀ (i : Nat) (r : Row), rs[i]? = some r → ∃ f fd, Txt K mg r.nm r.st f fd r.ps) : ∀ (i : Nat) (r' : Row), (r :: rs)[i]? = some r' → ∃ f fd, Txt K mg r'.nm r'.st f fd r'.ps := fun i r' h => by
  cases i with
  | zero => simp at h; subst h; exact t
  | succ i => exact ts i r' (by simpa using h)
theorem bs_nil : ∀ x, ([] : List Str).contains x = true → mg x = none := fun x h => by simp at h
theorem bs_cons {y : Str} {l : List Str} (h : mg y = none) (hs : ∀ x, l.contains x = true → mg x = none) : ∀ x, (y :: l).contains x = true → mg x = none := fun x q => by
  rw [List.contains_iff_mem] at q
  rcases List.mem_cons.mp q with e | q
  · rw [e]; exact h
  · exact hs x (List.contains_iff_mem.mpr q)
def GlOk (K : PySem.W.Frag) (mg : Str → Option Value) (x : Str) (r : R) : Prop := ∃ v u, mg x = some u ∧ RelV v u ∧ ∀ H0 H P, RR K H0 H P v r
theorem gl_nil : ∀ x r, ([] : List (Str × R)).lookup x = some r → GlOk K mg x r := fun x r h => by simp at h
theorem gl_cons {y : Str} {s : R} {l : List (Str × R)} (h : GlOk K mg y s) (hs : ∀ x r, l.lookup x = some r → GlOk K mg x r) : ∀ x r, ((y, s) :: l).lookup x = some r → GlOk K mg x r := fun x r q => by
  rw [List.lookup_cons] at q
  split at q
  · next e => cases q; rw [eq_of_beq e]; exact h
  · exact hs x r q
theorem gl_str {x y : Str} {t : Tok} (h : mg x = some (.str y t)) (ok : strOk y = true) : GlOk K mg x (.val (.str y)) := ⟨.str y, _, h, ⟨t, rfl⟩, fun _ _ _ => rr_str ok⟩
theorem gl_int {x : Str} {i : Int} {t : Tok} (h : mg x = some (.int i t)) : GlOk K mg x (.val (.int i)) := ⟨.int i, _, h, ⟨t, rfl⟩, fun _ _ _ => by simp [RR, Rp]⟩
theorem strs_ok {H : Hp} {P : Addr → Prop} : ∀ (l : List (Str × Tok)), (l.all fun p => strOk p.1) = true → Rps H P (l.map fun p => V.str p.1) (l.map fun p => D.str p.1)
  | [], _ => by simp [Rps]
  | p :: l, h => by
    rw [List.all_cons, Bool.and_eq_true] at h
    exact ⟨rp_str h.1, strs_ok l h.2⟩
theorem strs_vals : ∀ (l : List (Str × Tok)), Vals (l.map fun p => V.str p.1) (l.map fun p => Value.str p.1 p.2)
  | [] => .nil
  | p :: l => .cons ⟨p.2, rfl⟩ (strs_vals l)
theorem gl_tup {x : Str} {a : Addr} {od : Option Addr} {sl : Array (Option Value)} {n : Nat} {its : Array Value} {ds : List D} (h : mg x = some (.ref a)) (hl : K.lookup a = some ⟨.type "tuple", od, .seq its n, sl⟩) (l : List (Str × Tok)) (e1 : its = (l.map fun p => Value.str p.1 p.2).toArray)
    (e2 : ds = l.map fun p => D.str p.1) (xs : List Str) (e0 : l.map (·.1) = xs) (ok' : xs.all strOk = true) (hz' : xs.length ≤ 1000) : GlOk K mg x (.bor (.tup ds)) := by
  subst e1 e2 e0
  have ok : (l.all fun p => strOk p.1) = true := by rw [List.all_map] at ok'; exact ok'
  have hz : l.length ≤ 1000 := by rw [List.length_map] at hz'; exact hz'
  refine ⟨.ref a, _, h, rfl, fun H0 H P => ⟨a, _, rfl, .inr ⟨_, _, n, hl, rfl, rfl, ?_, ?_⟩, strs_ok l ok⟩⟩
  · rw [List.size_toArray, List.length_map]
    exact Nat.le_trans hz (by decide)
  · exact strs_vals l
end
section
variable {K : PySem.W.Frag} {mg : Str → Option Value} {ca : Nat → Addr}
theorem xc_nil : ∀ x j, ([] : List (Str × Nat)).lookup x = some j → ExcK K mg x (ca j) := fun x j h => by simp at h
theorem xc_cons {y : Str} {i : Nat} {l : List (Str × Nat)} (h : ExcK K mg y (ca i)) (hs : ∀ x j, l.lookup x = some j → ExcK K mg x (ca j)) : ∀ x j, ((y, i) :: l).lookup x = some j → ExcK K mg x (ca j) := fun x j q => by
  rw [List.lookup_cons] at q
  split at q
  · next e => cases q; rw [eq_of_beq e]; exact h
  · exact hs x j q
/-- the table of errors: rows of (raised, named, caught) -/
def subT (l : List ((Nat × Nat) × Bool)) (i j : Nat) : Option Bool := l.lookup (i, j)
theorem xm_nil : ∀ i j b, subT [] i j = some b → PySem.W.exmOne K (.ref (ca i)) (.ref (ca j)) = some b := fun i j b h => by simp [subT] at h
theorem xm_cons {i' j' : Nat} {b' : Bool} {l : List ((Nat × Nat) × Bool)} (h : PySem.W.exmOne K (.ref (ca i')) (.ref (ca j')) = some b') (hs : ∀ i j b, subT l i j = some b → PySem.W.exmOne K (.ref (ca i)) (.ref (ca j)) = some b) :
    ∀ i j b, subT (((i', j'), b') :: l) i j = some b → PySem.W.exmOne K (.ref (ca i)) (.ref (ca j)) = some b := fun i j b q => by
  unfold subT at q
  rw [List.lookup_cons] at q
  split at q
  · next e => cases q; have := eq_of_beq e; cases this; exact h
  · exact hs i j b q
theorem exc_mk {h : Heap} {x : Str} {a : Addr} (X : K.In h) (G : h.Ns mainGlobals mg) (p1 : PySem.W.nsIn K mainGlobals x = some (some (.ref a))) (p2 : PySem.W.keepIn K (.ref a) = true) (p3 : PySem.W.subIn K (.ref a) (.type "BaseException") = some true) (p4 : PySem.W.typeIn K (.ref a) = some (.type "type"))
    (p5 : PySem.W.excIn K a [.type "ValueError", .type "Exception", .type "BaseException", .type "object"] "ValueError.__new__" = true) : ExcK K mg x a :=
  ⟨PySem.W.mg_of X G p1, p2, p3, p4, _, _, _, _, PySem.F.excBase_ValueError, p5⟩
end
theorem txt_mk {K : PySem.W.Frag} {h : Heap} {mg : Str → Option Value} {x : Str} {st : Stmt} {f : Addr} {ps : List Str} {oc : Value} {od an : Option Addr} {osl : Array (Option Value)} {kV doc pm cdv ct : Value} (X : K.In h) (G : h.Ns mainGlobals mg)
    (a : PySem.W.nsIn K mainGlobals x = some (some (.ref f))) (l : K.lookup f = some ⟨oc, od, .func (PySem.W.fnOf x x (defArgs st) (defBody st) (defScope st) .none kV doc pm an cdv ct), osl⟩) (c : PySem.W.codeIn K cdv x = true) (k : PySem.W.keepIn K (.ref f) = true)
    (b : ∀ (kV doc pm : Value) (an : Option Addr) (cdv ct : Value) (us : List Value), us.length = ps.length → bindArgs (PySem.W.fnOf x x (defArgs st) (defBody st) (defScope st) .none kV doc pm an cdv ct) ⟨us, []⟩ = pure (ps.zip us)) : ∃ fd, Txt K mg x st f fd ps :=
  ⟨_, fun_mk l c k, PySem.W.mg_of X G a, (fun_mk l c k).binds b⟩
end Mp

namespace Mp
open PySem L2

/-! ### reckoning with words -/
theorem rn_at {T : List Df} {M : Mn} {n f : Nat} {rs : List R} {F : Df} (h : T[f]? = some F) : rn T M (n + 1) f rs = runD ⟨rnO T M n, M.glo, M.sub⟩ F rs := by
  unfold rn runD
  rw [rnO, h]
theorem rnO_at {T : List Df} {M : Mn} {n f : Nat} {rs : List R} {F : Df} (h : T[f]? = some F) : rnO T M (n + 1) f rs = runO ⟨rnO T M n, M.glo, M.sub⟩ F rs := by
  rw [rnO, h]
theorem run_rn (T : List Df) (M : Mn) (n f : Nat) (a : List (Str × R)) (b : Nat → Nat → Option Bool) : (G.mk (rnO T M n) a b).run f = rn T M n f := rfl
theorem runO_rn (T : List Df) (M : Mn) (n f : Nat) (a : List (Str × R)) (b : Nat → Nat → Option Bool) : (G.mk (rnO T M n) a b).runO f = rnO T M n f := rfl
theorem strOk_app {a b : Str} (ha : strOk a = true) (hb : strOk b = true) : strOk (a ++ b) = true := by
  show (a.cps ++ b.cps).all _ = true
  rw [Array.all_append]
  simp only [Bool.and_eq_true]
  exact ⟨ha, hb⟩
theorem atI_in {α : Type} {xs : List α} {i : Int} (h0 : 0 ≤ i) (h1 : i < xs.length) : atI xs i = xs[i.toNat]? := by
  obtain ⟨n, rfl⟩ := Int.eq_ofNat_of_zero_le h0
  have hn : n < xs.length := by omega
  rw [show ((n : Int)).toNat = n from rfl, List.getElem?_eq_getElem hn]
  exact atI_nat (List.getElem?_eq_getElem hn)
theorem atI_map {α β : Type} (f : α → β) (xs : List α) (i : Int) : atI (xs.map f) i = (atI xs i).map f := by
  unfold atI
  rw [List.length_map]
  cases ixN xs.length i with
  | none => rfl
  | some j => simp
/-- a comprehension that maps -/
theorem lcGo_map {b : D → Option Env} {elt : Env → Res R} {f : D → D} : ∀ {ds acc : List D}, (∀ d ∈ ds, ∃ ρ r, b d = some ρ ∧ elt ρ = .ok r ∧ r.froz = some (f d)) → acc.length + ds.length ≤ LIM → lcGo b none elt ds acc = .ok (acc ++ ds.map f)
  | [], acc, _, _ => by simp [lcGo]
  | d :: ds, acc, h, hl => by
    obtain ⟨ρ, r, h1, h2, h3⟩ := h d List.mem_cons_self
    rw [List.length_cons] at hl
    unfold lcGo
    rw [h1]
    simp only [h2, h3]
    rw [if_pos (by omega), lcGo_map (fun e he => h e (List.mem_cons_of_mem _ he)) (by rw [List.length_append, List.length_singleton]; omega)]
    simp
/-- .. with a test -/
theorem lcGo_filter {b : D → Option Env} {tt elt : Env → Res R} {f : D → D} {p : D → Bool} : ∀ {ds acc : List D}, (∀ d ∈ ds, ∃ ρ, b d = some ρ ∧ tt ρ = .ok (.val (.bl (p d))) ∧ (p d = true → ∃ r, elt ρ = .ok r ∧ r.froz = some (f d))) → acc.length + ds.length ≤ LIM →
    lcGo b (some tt) elt ds acc = .ok (acc ++ (ds.filter p).map f)
  | [], acc, _, _ => by simp [lcGo]
  | d :: ds, acc, h, hl => by
    obtain ⟨ρ, h1, h2, h3⟩ := h d List.mem_cons_self
    rw [List.length_cons] at hl
    unfold lcGo
    rw [h1]
    simp only [h2, asBl]
    cases hp : p d with
    | true =>
      obtain ⟨r, h4, h5⟩ := h3 hp
      simp only [h4, h5]
      rw [if_pos (by omega), lcGo_filter (fun e he => h e (List.mem_cons_of_mem _ he)) (by rw [List.length_append, List.length_singleton]; omega), List.filter_cons_of_pos hp]
      simp
    | false =>
      simp only
      rw [lcGo_filter (fun e he => h e (List.mem_cons_of_mem _ he)) (by omega), List.filter_cons_of_neg (by simp [hp])]
/-- a loop keeps what each turn keeps -/
theorem forGo_inv {t : Tg} {body : Env → Out} {I : List D → Env → Prop} : ∀ {ds : List D} {ρ : Env}, I ds ρ → (∀ d ds ρ, I (d :: ds) ρ → ∃ ρ1, bindD t d ρ = some ρ1 ∧ ((∃ ρ2, (body ρ1 = .nx ρ2 ∨ body ρ1 = .ct ρ2) ∧ I ds ρ2))) → ∃ ρ', forGo t body ds ρ = .nx ρ' ∧ I [] ρ'
  | [], ρ, h, _ => ⟨ρ, rfl, h⟩
  | d :: ds, ρ, h, k => by
    obtain ⟨ρ1, h1, ρ2, h2, h3⟩ := k d ds ρ h
    obtain ⟨ρ', h4, h5⟩ := forGo_inv (ds := ds) h3 k
    refine ⟨ρ', ?_, h5⟩
    unfold forGo
    rw [h1]
    rcases h2 with h2 | h2 <;> (simp only [h2]; exact h4)
/-- a loop that hands back at the first item that .. -/
theorem forGo_first {t : Tg} {body : Env → Out} {I : Env → Prop} {p : D → Bool} {r : R} : ∀ {ds : List D} {ρ : Env} {F : Out}, forGo t body ds ρ = F → I ρ →
    (∀ d ρ, d ∈ ds → I ρ → ∃ ρ1, bindD t d ρ = some ρ1 ∧ (p d = true → ∃ ρ2, body ρ1 = .rt r ρ2) ∧ (p d = false → ∃ ρ2, (body ρ1 = .nx ρ2 ∨ body ρ1 = .ct ρ2) ∧ I ρ2)) →
    (ds.any p = true ∧ ∃ ρ', F = .rt r ρ') ∨ (ds.any p = false ∧ ∃ ρ', F = .nx ρ' ∧ I ρ')
  | [], ρ, F, e, h, _ => .inr ⟨rfl, ρ, e.symm, h⟩
  | d :: ds, ρ, F, e, h, k => by
    obtain ⟨ρ1, h1, h2, h3⟩ := k d ρ List.mem_cons_self h
    unfold forGo at e
    rw [h1] at e
    cases hp : p d with
    | true =>
      obtain ⟨ρ2, h4⟩ := h2 hp
      simp only [h4] at e
      exact .inl ⟨by simp [hp], ρ2, e.symm⟩
    | false =>
      obtain ⟨ρ2, h4, h5⟩ := h3 hp
      have e' : forGo t body ds ρ2 = F := by rcases h4 with h4 | h4 <;> (simp only [h4] at e; exact e)
      simpa [hp] using forGo_first e' h5 fun d' ρ' hd => k d' ρ' (List.mem_cons_of_mem _ hd)
/-- a loop that goes on: what is true ahead of the rest -/
theorem forGo_go {t : Tg} {body : Env → Out} {I : List D → Env → Prop} : ∀ {ds : List D} {ρ : Env} {F : Out}, forGo t body ds ρ = F → I ds ρ → (∀ d ds ρ, I (d :: ds) ρ → ∃ ρ1, bindD t d ρ = some ρ1 ∧ ∃ ρ2, (body ρ1 = .nx ρ2 ∨ body ρ1 = .ct ρ2) ∧ I ds ρ2) → ∃ ρ', F = .nx ρ' ∧ I [] ρ' :=
  fun e h k => by
    obtain ⟨ρ', h1, h2⟩ := forGo_inv h k
    exact ⟨ρ', e.symm.trans h1, h2⟩
theorem beq_empty (w : Str) : (w == ("" : Str)) = decide (w.length = 0) := by
  by_cases h : w.length = 0
  · rw [decide_eq_true h]
    have : w = ("" : Str) := by
      obtain ⟨⟨l⟩⟩ := w
      have : l = [] := List.eq_nil_of_length_eq_zero (by simpa [Str.length] using h)
      subst this
      rfl
    rw [this]
    rfl
  · rw [decide_eq_false h]
    refine Bool.eq_false_iff.mpr fun e => h ?_
    rw [eq_of_beq e]
    rfl
theorem len_cps (w : Str) : w.length = w.cps.toList.length := by simp [Str.length]
theorem at0 {w : Str} (h : w.length ≠ 0) : atI w.cps.toList 0 = some (w.cps.toList.getD 0 0) := by
  rw [len_cps] at h
  rw [atI_in (Int.le_refl _) (by omega)]
  cases e : w.cps.toList with
  | nil => rw [e] at h; exact absurd rfl h
  | cons a l => rfl
theorem len_signs (w : Str) : (signs w).length = w.length := by rw [signs, List.length_map, len_cps]
theorem bls_map {α : Type} (f : α → Bool) : ∀ l : List α, bls (l.map fun x => D.bl (f x)) = some (l.map f)
  | [] => rfl
  | x :: l => by simp only [List.map_cons, bls, bls_map f l]; rfl
theorem mulOk_r {i j : Int} (h : j.natAbs < 18446744073709551616) : mulOk i j = true := by
  unfold mulOk
  rw [decide_eq_true h]
  simp
theorem mulOk_l {i j : Int} (h : i.natAbs < 18446744073709551616) : mulOk i j = true := by
  unfold mulOk
  rw [decide_eq_true h]
  simp
theorem atS {s : List Int} {k : Int} (h0 : 0 ≤ k) (h1 : k < s.length) : atI (s.map D.int) k = some (.int (s.getD k.toNat 0)) := by
  rw [atI_map, atI_in h0 h1, List.getElem?_eq_getElem (by omega)]
  simp [List.getD, List.getElem?_eq_getElem (show k.toNat < s.length by omega)]
end Mp

namespace Mp
open PySem L2

/-! ### rules of reckoning: each only where its parts are known -/
def oK (o : Out) (b : Env → Out) : Out := match o with
  | .nx ρ' => b ρ'
  | o => o
theorem oSeq_k (a b : Env → Out) (ρ : Env) : oSeq a b ρ = oK (a ρ) b := by
  unfold oSeq oK
  cases a ρ <;> rfl
theorem oK_nx (ρ : Env) (b : Env → Out) : oK (.nx ρ) b = b ρ := rfl
theorem oK_rt (r : R) (ρ : Env) (b : Env → Out) : oK (.rt r ρ) b = .rt r ρ := rfl
theorem oK_bk (ρ : Env) (b : Env → Out) : oK (.bk ρ) b = .bk ρ := rfl
theorem oK_ct (ρ : Env) (b : Env → Out) : oK (.ct ρ) b = .ct ρ := rfl
theorem oK_ex (c : Nat) (pl : List (Str × D)) (ρ : Env) (b : Env → Out) : oK (.ex c pl ρ) b = .ex c pl ρ := rfl
theorem oK_st (b : Env → Out) : oK .stuck b = .stuck := rfl
theorem oB_exc (k : Nat) (pl : List (Str × D)) (ρ : Env) (f : R → Out) : oB (.exc k pl) ρ f = .ex k pl ρ := rfl
def oIf (r : R) (a b : Env → Out) (ρ : Env) : Out := match asBl r with
  | some true => a ρ
  | some false => b ρ
  | none => .stuck
theorem sIf_k (c : Env → Res R) (a b : Env → Out) (ρ : Env) : sIf c a b ρ = oB (c ρ) ρ fun r => oIf r a b ρ := rfl
theorem oIf_t (a b : Env → Out) (ρ : Env) : oIf (.val (.bl true)) a b ρ = a ρ := rfl
theorem oIf_f (a b : Env → Out) (ρ : Env) : oIf (.val (.bl false)) a b ρ = b ρ := rfl
theorem eArgs_nil (ρ : Env) : eArgs [] ρ = .ok [] := rfl
def aK (r : R) (ms : List (Env → Res R)) (ρ : Env) : Res (List R) := (eArgs ms ρ).bind fun rs => .ok (r :: rs)
theorem eArgs_cons (m : Env → Res R) (ms : List (Env → Res R)) (ρ : Env) : eArgs (m :: ms) ρ = (m ρ).bind fun r => (eArgs ms ρ).bind fun rs => .ok (r :: rs) := by
  rw [eArgs]
  cases m ρ with
  | ok r => simp only [Res.bind_ok]; cases eArgs ms ρ <;> rfl
  | exc c pl => rfl
  | stuck => rfl
def andK (x : R) (b : Env → Res R) (ρ : Env) : Res R := match asBl x with
  | some true => b ρ
  | some false => .ok (.val (.bl false))
  | none => .stuck
def orK (x : R) (b : Env → Res R) (ρ : Env) : Res R := match asBl x with
  | some true => .ok (.val (.bl true))
  | some false => b ρ
  | none => .stuck
def iteK (x : R) (a b : Env → Res R) (ρ : Env) : Res R := match asBl x with
  | some true => a ρ
  | some false => b ρ
  | none => .stuck
def notK (x : R) : Res R := match asBl x with
  | some b => .ok (.val (.bl !b))
  | none => .stuck
theorem eAnd_k (a b : Env → Res R) (ρ : Env) : eAnd a b ρ = (a ρ).bind fun x => andK x b ρ := rfl
theorem eOr_k (a b : Env → Res R) (ρ : Env) : eOr a b ρ = (a ρ).bind fun x => orK x b ρ := rfl
theorem eIte_k (c a b : Env → Res R) (ρ : Env) : eIte c a b ρ = (c ρ).bind fun x => iteK x a b ρ := rfl
theorem eNot_k (a : Env → Res R) (ρ : Env) : eNot a ρ = (a ρ).bind notK := rfl
theorem andK_t (b : Env → Res R) (ρ : Env) : andK (.val (.bl true)) b ρ = b ρ := rfl
theorem andK_f (b : Env → Res R) (ρ : Env) : andK (.val (.bl false)) b ρ = .ok (.val (.bl false)) := rfl
theorem orK_t (b : Env → Res R) (ρ : Env) : orK (.val (.bl true)) b ρ = .ok (.val (.bl true)) := rfl
theorem orK_f (b : Env → Res R) (ρ : Env) : orK (.val (.bl false)) b ρ = b ρ := rfl
theorem iteK_t (a b : Env → Res R) (ρ : Env) : iteK (.val (.bl true)) a b ρ = a ρ := rfl
theorem iteK_f (a b : Env → Res R) (ρ : Env) : iteK (.val (.bl false)) a b ρ = b ρ := rfl
theorem notK_b (b : Bool) : notK (.val (.bl b)) = .ok (.val (.bl !b)) := rfl
theorem fin_nx (ρ : Env) : (Out.nx ρ).fin = .ok (.val .non) := rfl
theorem fin_rt (r : R) (ρ : Env) : (Out.rt r ρ).fin = .ok r := rfl
theorem fin_ex (c : Nat) (pl : List (Str × D)) (ρ : Env) : (Out.ex c pl ρ).fin = .exc c pl := rfl
-- words
theorem denB_nil (g : G) (ρ : Env) : denB g [] ρ = .nx ρ := by rw [denB]
theorem denB_cons (g : G) (m : Sm) (ms : List Sm) (ρ : Env) : denB g (m :: ms) ρ = oK (denS g m ρ) (denB g ms) := by rw [denB, oSeq_k]
theorem dn_var (g : G) (i : Nat) (ρ : Env) : den g (.var i) ρ = (eVar i) ρ := by rw [den]
theorem dn_cst (g : G) (d : D) (ρ : Env) : den g (.cst d) ρ = (fun _ => ofD d) ρ := by rw [den]
theorem dn_glo (g : G) (x : Str) (ρ : Env) : den g (.glo x) ρ = (eGlo g x) ρ := by rw [den]
theorem dn_tup (g : G) (es : List Xp) (ρ : Env) : den g (.tup es) ρ = (eTup (dens g es)) ρ := by rw [den]
theorem dn_lst (g : G) (es : List Xp) (ρ : Env) : den g (.lst es) ρ = (eLst (dens g es)) ρ := by rw [den]
theorem dn_and (g : G) (a b : Xp) (ρ : Env) : den g (.and a b) ρ = (eAnd (den g a) (den g b)) ρ := by rw [den]
theorem dn_or (g : G) (a b : Xp) (ρ : Env) : den g (.or a b) ρ = (eOr (den g a) (den g b)) ρ := by rw [den]
theorem dn_not (g : G) (a : Xp) (ρ : Env) : den g (.not a) ρ = (eNot (den g a)) ρ := by rw [den]
theorem dn_neg (g : G) (a : Xp) (ρ : Env) : den g (.neg a) ρ = (eNeg (den g a)) ρ := by rw [den]
theorem dn_bin (g : G) (op : Operator) (a b : Xp) (ρ : Env) : den g (.bin op a b) ρ = (eBin op (den g a) (den g b)) ρ := by rw [den]
theorem dn_cmp (g : G) (op : CmpOp) (a b : Xp) (ρ : Env) : den g (.cmp op a b) ρ = (eCmp op (den g a) (den g b)) ρ := by rw [den]
theorem dn_chn (g : G) (op op' : CmpOp) (a b c : Xp) (ρ : Env) : den g (.chn op op' a b c) ρ = (eChain op op' (den g a) (den g b) (den g c)) ρ := by rw [den]
theorem dn_ite (g : G) (c a b : Xp) (ρ : Env) : den g (.ite c a b) ρ = (eIte (den g c) (den g a) (den g b)) ρ := by rw [den]
theorem dn_ix (g : G) (a b : Xp) (ρ : Env) : den g (.ix a b) ρ = (eIx (den g a) (den g b)) ρ := by rw [den]
theorem dn_sl (g : G) (a : Xp) (lo hi : List Xp) (ρ : Env) : den g (.sl a lo hi) ρ = (eSl (den g a) (dens g lo).head? (dens g hi).head?) ρ := by rw [den]
theorem dn_blt (g : G) (b : Bt) (es : List Xp) (ρ : Env) : den g (.blt b es) ρ = (eBlt b.fn (dens g es)) ρ := by rw [den]
theorem dn_isi (g : G) (a : Xp) (T : Ty) (ρ : Env) : den g (.isi a T) ρ = (eIsi T.T (den g a)) ρ := by rw [den]
theorem dn_join (g : G) (a b : Xp) (ρ : Env) : den g (.join a b) ρ = (eJoin (den g a) (den g b)) ρ := by rw [den]
theorem dn_get1 (g : G) (a b : Xp) (ρ : Env) : den g (.get1 a b) ρ = (eGet1 (den g a) (den g b)) ρ := by rw [den]
theorem dn_dct0 (g : G) (tk : Bool) (ρ : Env) : den g (.dct0 tk) ρ = .ok (.own (.dct tk [] [])) := by rw [den]; rfl
theorem dn_din (g : G) (n : Bool) (a b : Xp) (ρ : Env) : den g (.din n a b) ρ = (eDin n (den g a) (den g b)) ρ := by rw [den]
theorem dn_get2 (g : G) (a b c : Xp) (ρ : Env) : den g (.get2 a b c) ρ = (eGet2 (den g a) (den g b) (den g c)) ρ := by rw [den]
theorem dn_call (g : G) (f : Nat) (es : List Xp) (ρ : Env) : den g (.call f es) ρ = (eCall (g.run f) (dens g es)) ρ := by rw [den]
theorem dn_rng (g : G) (es : List Xp) (ρ : Env) : den g (.rng es) ρ = (eRngV (dens g es)) ρ := by rw [den]
theorem dn_lc (g : G) (elt : Xp) (t : Tg) (src : Xp) (tt : List Xp) (ρ : Env) : den g (.lc elt t src tt) ρ = (eLc t (eSeq (den g src)) (dens g tt).head? (den g elt)) ρ := by rw [den]
theorem ds_pass (g : G)  (ρ : Env) : denS g (.pass) ρ = .nx ρ := by rw [denS]
theorem ds_brk (g : G)  (ρ : Env) : denS g (.brk) ρ = .bk ρ := by rw [denS]
theorem ds_cnt (g : G)  (ρ : Env) : denS g (.cnt) ρ = .ct ρ := by rw [denS]
theorem ds_drop (g : G) (m : Xp) (ρ : Env) : denS g (.drop m) ρ = sDrop (den g m) ρ := by rw [denS]
theorem ds_ret (g : G) (m : Xp) (ρ : Env) : denS g (.ret m) ρ = sRet (den g m) ρ := by rw [denS]
theorem ds_retN (g : G)  (ρ : Env) : denS g (.retN) ρ = sRetN ρ := by rw [denS]
theorem ds_retV (g : G) (i : Nat) (ρ : Env) : denS g (.retV i) ρ = sRetV i ρ := by rw [denS]
theorem ds_set (g : G) (ow : Bool) (i : Nat) (m : Xp) (ρ : Env) : denS g (.set ow i m) ρ = sSet ow i (den g m) ρ := by rw [denS]
theorem ds_unp (g : G) (t : Tg) (m : Xp) (ρ : Env) : denS g (.unp t m) ρ = sUnp t (den g m) ρ := by rw [denS]
theorem ds_ite (g : G) (c : Xp) (a b : List Sm) (ρ : Env) : denS g (.ite c a b) ρ = sIf (den g c) (denB g a) (denB g b) ρ := by rw [denS]
theorem ds_fore (g : G) (t : Tg) (s : Xp) (b : List Sm) (ρ : Env) : denS g (.fore t s b) ρ = sFor t (eSeqX (den g s)) (denB g b) ρ := by rw [denS]
theorem ds_whl (g : G) (n : Nat) (c : Xp) (b : List Sm) (ρ : Env) : denS g (.whl n c b) ρ = whGo (den g c) (denB g b) n ρ := by rw [denS]
theorem ds_app (g : G) (i : Nat) (m : Xp) (ρ : Env) : denS g (.app i m) ρ = sApp i (den g m) ρ := by rw [denS]
theorem ds_ext (g : G) (i : Nat) (m : Xp) (ρ : Env) : denS g (.ext i m) ρ = sExt i (den g m) ρ := by rw [denS]
theorem ds_dput (g : G) (i : Nat) (a b : Xp) (ρ : Env) : denS g (.dput i a b) ρ = sDput i (den g a) (den g b) ρ := by rw [denS]
theorem ds_clr (g : G) (i : Nat) (ρ : Env) : denS g (.clr i) ρ = sClr i ρ := by rw [denS]
theorem ds_lend (g : G) (i : Nat) (t : Tg) (b : List Sm) (ρ : Env) : denS g (.lend i t b) ρ = sLend i t (denB g b) ρ := by rw [denS]
theorem ds_callO (g : G) (ret : Option Nat) (f : Nat) (es : List Xp) (p j : Nat) (ρ : Env) : denS g (.callO ret f es p j) ρ = sCallO (g.runO f) ret (dens g es) p j ρ := by rw [denS]
theorem ds_raise (g : G) (k : Nat) (ρ : Env) : denS g (.raise k) ρ = .ex k [] ρ := by rw [denS]; rfl
theorem ds_tryM (g : G) (b : List Sm) (js : List Nat) (ss : List (List Sm)) (ρ : Env) : denS g (.tryM b js ss) ρ = sTry g.sub (denB g b) (js.zip (denL g ss)) ρ := by rw [denS]
theorem ds_frz (g : G) (i : Nat) (ρ : Env) : denS g (.frz i) ρ = sFrz i ρ := by rw [denS]
-- operations
theorem add_i (i j : Int) : opAdd (.val (.int i)) (.val (.int j)) = .ok (.val (.int (i + j))) := rfl
theorem add_s (a b : Str) : opAdd (.val (.str a)) (.val (.str b)) = if a.length + b.length ≤ LIM then .ok (.val (.str (a ++ b))) else .stuck := rfl
theorem add_l {x y : R} {as bs : List D} (hx : x.d = .lst as) (hy : y.d = .lst bs) (ex : x.exact = true) (ey : y.exact = true) : opAdd x y = if as.length + bs.length ≤ LIM then .ok (.own (.lst (as ++ bs))) else .stuck := by
  unfold opAdd
  simp only [hx, hy, ex, ey, Bool.true_and]
  by_cases h : as.length + bs.length ≤ LIM
  · rw [if_pos h, decide_eq_true h]; rfl
  · rw [if_neg h, decide_eq_false h]; rfl
theorem add_oo (as bs : List D) : opAdd (.own (.lst as)) (.own (.lst bs)) = if as.length + bs.length ≤ LIM then .ok (.own (.lst (as ++ bs))) else .stuck := add_l rfl rfl rfl rfl
theorem add_ov (as bs : List D) : opAdd (.own (.lst as)) (.val (.lst bs)) = if as.length + bs.length ≤ LIM then .ok (.own (.lst (as ++ bs))) else .stuck := add_l rfl rfl rfl rfl
theorem add_vo (as bs : List D) : opAdd (.val (.lst as)) (.own (.lst bs)) = if as.length + bs.length ≤ LIM then .ok (.own (.lst (as ++ bs))) else .stuck := add_l rfl rfl rfl rfl
theorem add_vv (as bs : List D) : opAdd (.val (.lst as)) (.val (.lst bs)) = if as.length + bs.length ≤ LIM then .ok (.own (.lst (as ++ bs))) else .stuck := add_l rfl rfl rfl rfl
theorem sub_i (i j : Int) : opSub (.val (.int i)) (.val (.int j)) = .ok (.val (.int (i - j))) := rfl
theorem mul_i (i j : Int) : opMul (.val (.int i)) (.val (.int j)) = if mulOk i j = true then .ok (.val (.int (i * j))) else .stuck := rfl
theorem mul_s (a : Str) (k : Int) : opMul (.val (.str a)) (.val (.int k)) = if (decide (0 ≤ k) && decide (k ≤ 1000) && decide (a.length ≤ 1000)) = true then .ok (.val (.str (strRep a k))) else .stuck := rfl
theorem mul_o (as : List D) (k : Int) : opMul (.own (.lst as)) (.val (.int k)) = if (decide (0 ≤ k) && decide (k ≤ 1000) && decide (as.length ≤ 1000)) = true then .ok (.own (.lst (List.replicate k.toNat as).flatten)) else .stuck := rfl
theorem div_i (i j : Int) : opDiv (.val (.int i)) (.val (.int j)) = if (decide (0 < j) && decide (j.natAbs.log2 < 9000)) = true then .ok (.val (.int (i / j))) else .stuck := rfl
theorem mod_i (i j : Int) : opMod (.val (.int i)) (.val (.int j)) = if decide (0 < j) = true then .ok (.val (.int (i % j))) else .stuck := rfl
theorem pow_i (i j : Int) : opPow (.val (.int i)) (.val (.int j)) = if (decide (0 ≤ j) && decide (j ≤ 1000000) && decide (i.natAbs < 18446744073709551616)) = true then .ok (.val (.int (i ^ j.toNat))) else .stuck := rfl
theorem div_p (i j : Int) (h0 : 0 < j) (h1 : j < 18446744073709551616) : opDiv (.val (.int i)) (.val (.int j)) = .ok (.val (.int (i / j))) := by
  rw [div_i, if_pos]
  rw [decide_eq_true h0, Bool.true_and]
  have : j.natAbs.log2 < 64 := (Nat.log2_lt (by omega)).mpr (by omega)
  exact decide_eq_true (by omega)
theorem mod_p (i j : Int) (h0 : 0 < j) : opMod (.val (.int i)) (.val (.int j)) = .ok (.val (.int (i % j))) := by
  rw [mod_i, if_pos (decide_eq_true h0)]
theorem mul_r (i j : Int) (h0 : -18446744073709551616 < j) (h1 : j < 18446744073709551616) : opMul (.val (.int i)) (.val (.int j)) = .ok (.val (.int (i * j))) := by
  rw [mul_i, if_pos (mulOk_r (by omega))]
theorem mul_l (i j : Int) (h0 : -18446744073709551616 < i) (h1 : i < 18446744073709551616) : opMul (.val (.int i)) (.val (.int j)) = .ok (.val (.int (i * j))) := by
  rw [mul_i, if_pos (mulOk_l (by omega))]
theorem pow_p (i j : Int) (h0 : 0 ≤ j) (h1 : j ≤ 1000000) (h2 : -18446744073709551616 < i) (h3 : i < 18446744073709551616) : opPow (.val (.int i)) (.val (.int j)) = .ok (.val (.int (i ^ j.toNat))) := by
  rw [pow_i, if_pos]
  rw [decide_eq_true h0, decide_eq_true h1, Bool.true_and, Bool.true_and]
  exact decide_eq_true (by omega)
theorem neg_i (i : Int) : opNeg (.val (.int i)) = .ok (.val (.int (-i))) := rfl
theorem bin_add : opBin .Add = opAdd := rfl
theorem bin_sub : opBin .Sub = opSub := rfl
theorem bin_mul : opBin .Mult = opMul := rfl
theorem bin_div : opBin .FloorDiv = opDiv := rfl
theorem bin_mod : opBin .Mod = opMod := rfl
theorem bin_pow : opBin .Pow = opPow := rfl
-- comparisons
theorem c_eq : opCmp .Eq = cpEq := rfl
theorem c_ne : opCmp .NotEq = cpNe := rfl
theorem c_lt : opCmp .Lt = cpLt := rfl
theorem c_le : opCmp .LtE = cpLe := rfl
theorem c_gt : opCmp .Gt = cpGt := rfl
theorem c_ge : opCmp .GtE = cpGe := rfl
theorem c_is : opCmp .Is = cpIs := rfl
theorem c_in : opCmp .In = cpIn := rfl
theorem c_nin : opCmp .NotIn = cpNin := rfl
theorem eq_ii (i j : Int) : cpEq (.val (.int i)) (.val (.int j)) = .ok (.val (.bl (i == j))) := rfl
theorem eq_ss (i j : Str) : cpEq (.val (.str i)) (.val (.str j)) = .ok (.val (.bl (i == j))) := rfl
theorem eq_bb (i j : Bool) : cpEq (.val (.bl i)) (.val (.bl j)) = .ok (.val (.bl (i == j))) := rfl
theorem ne_ii (i j : Int) : cpNe (.val (.int i)) (.val (.int j)) = .ok (.val (.bl !(i == j))) := rfl
theorem ne_ss (i j : Str) : cpNe (.val (.str i)) (.val (.str j)) = .ok (.val (.bl !(i == j))) := rfl
theorem ne_bb (i j : Bool) : cpNe (.val (.bl i)) (.val (.bl j)) = .ok (.val (.bl !(i == j))) := rfl
theorem lt_ii (i j : Int) : cpLt (.val (.int i)) (.val (.int j)) = .ok (.val (.bl (decide (i < j)))) := rfl
theorem le_ii (i j : Int) : cpLe (.val (.int i)) (.val (.int j)) = .ok (.val (.bl (decide (i ≤ j)))) := rfl
theorem gt_ii (i j : Int) : cpGt (.val (.int i)) (.val (.int j)) = .ok (.val (.bl (decide (j < i)))) := rfl
theorem ge_ii (i j : Int) : cpGe (.val (.int i)) (.val (.int j)) = .ok (.val (.bl (decide (j ≤ i)))) := rfl
theorem in_ss (i j : Str) : cpIn (.val (.str i)) (.val (.str j)) = .ok (.val (.bl (strIn i j))) := rfl
theorem nin_ss (i j : Str) : cpNin (.val (.str i)) (.val (.str j)) = .ok (.val (.bl !strIn i j)) := rfl
-- parts
def optR {α : Type} (o : Option α) (f : α → R) : Res R := match o with
  | some d => .ok (f d)
  | none => .stuck
theorem optR_some {α : Type} (d : α) (f : α → R) : optR (some d) f = .ok (f d) := rfl
theorem ix_l {x : R} {ds : List D} (i : Int) (h : x.d = .lst ds) : opIx x (.val (.int i)) = optR (atI ds i) .val := by
  unfold opIx; rw [h]; cases h2 : atI ds i <;> simp [optR, h2]
theorem ix_lv (ds : List D) (i : Int) : opIx (.val (.lst ds)) (.val (.int i)) = optR (atI ds i) .val := ix_l i rfl
theorem ix_lo (ds : List D) (i : Int) : opIx (.own (.lst ds)) (.val (.int i)) = optR (atI ds i) .val := ix_l i rfl
theorem ix_lb (ds : List D) (i : Int) : opIx (.bor (.lst ds)) (.val (.int i)) = optR (atI ds i) .val := ix_l i rfl
theorem ix_tv (ds : List D) (i : Int) : opIx (.val (.tup ds)) (.val (.int i)) = optR (atI ds i) .val := by cases h2 : atI ds i <;> simp [opIx, optR, h2]
theorem ix_tb (ds : List D) (i : Int) : opIx (.bor (.tup ds)) (.val (.int i)) = optR (atI ds i) .val := by cases h2 : atI ds i <;> simp [opIx, optR, h2]
theorem ix_s (z : Str) (i : Int) : opIx (.val (.str z)) (.val (.int i)) = if z.length ≤ LIM then optR (atI z.cps.toList i) (fun c => .val (.str ⟨#[c]⟩)) else .stuck := by cases h2 : atI z.cps.toList i <;> simp [opIx, optR, h2]
theorem sl_s (z : Str) (lo hi : Option Int) : opSl (.val (.str z)) lo hi = if z.length ≤ LIM then .ok (.val (.str (cutS z lo hi))) else .stuck := rfl
theorem sl_lv (ds : List D) (lo hi : Option Int) : opSl (.val (.lst ds)) lo hi = .ok (.own (.lst (cutL ds lo hi))) := rfl
theorem sl_lo (ds : List D) (lo hi : Option Int) : opSl (.own (.lst ds)) lo hi = .ok (.own (.lst (cutL ds lo hi))) := rfl
theorem sl_lb (ds : List D) (lo hi : Option Int) : opSl (.bor (.lst ds)) lo hi = .ok (.own (.lst (cutL ds lo hi))) := rfl
theorem sl_tv (ds : List D) (lo hi : Option Int) : opSl (.val (.tup ds)) lo hi = .ok (.val (.tup (cutL ds lo hi))) := rfl
def pK (r : R) : Res (Option Int) := match r.d with
  | .int i => .ok (some i)
  | _ => .stuck
theorem part_none (ρ : Env) : ePart none ρ = .ok none := rfl
theorem part_some (m : Env → Res R) (ρ : Env) : ePart (some m) ρ = (m ρ).bind pK := by
  rw [ePart]
  cases m ρ with
  | ok r => rfl
  | exc c pl => rfl
  | stuck => rfl
theorem pK_i (i : Int) : pK (.val (.int i)) = .ok (some i) := rfl
theorem eSl_k (a : Env → Res R) (lo hi : Option (Env → Res R)) (ρ : Env) : eSl a lo hi ρ = (a ρ).bind fun x => (ePart lo ρ).bind fun l => (ePart hi ρ).bind fun u => opSl x l u := by
  unfold eSl Res.bind
  cases a ρ with
  | ok x => simp only; cases ePart lo ρ with
    | ok l => simp only; cases ePart hi ρ <;> rfl
    | exc c pl => rfl
    | stuck => rfl
  | exc c pl => rfl
  | stuck => rfl
-- built-ins
theorem len_s (z : Str) : bLen [.val (.str z)] = if z.length ≤ LIM then .ok (.val (.int (z.length : Int))) else .stuck := rfl
theorem len_lv (ds : List D) : bLen [.val (.lst ds)] = .ok (.val (.int (ds.length : Int))) := rfl
theorem len_lo (ds : List D) : bLen [.own (.lst ds)] = .ok (.val (.int (ds.length : Int))) := rfl
theorem len_lb (ds : List D) : bLen [.bor (.lst ds)] = .ok (.val (.int (ds.length : Int))) := rfl
theorem len_tv (ds : List D) : bLen [.val (.tup ds)] = .ok (.val (.int (ds.length : Int))) := rfl
theorem len_tb (ds : List D) : bLen [.bor (.tup ds)] = .ok (.val (.int (ds.length : Int))) := rfl
theorem str_i (i : Int) : bStr [.val (.int i)] = if (decide (0 ≤ i) && decide (i.natAbs.log2 < 1900)) = true then .ok (.val (.str (numS i.toNat))) else .stuck := rfl
theorem str_p (i : Int) (h0 : 0 ≤ i) (h1 : i < 1000000000000000000000000000000) : bStr [.val (.int i)] = .ok (.val (.str (numS i.toNat))) := by
  rw [str_i, if_pos]
  rw [decide_eq_true h0, Bool.true_and]
  refine decide_eq_true ?_
  by_cases h : i.natAbs = 0
  · rw [h]; decide
  · have : i.natAbs.log2 < 100 := (Nat.log2_lt h).mpr (by omega)
    omega
theorem int_i (i : Int) : bInt [.val (.int i)] = .ok (.val (.int i)) := rfl
theorem int_b (b : Bool) : bInt [.val (.bl b)] = .ok (.val (.int (if b then 1 else 0))) := rfl
theorem list_lv (ds : List D) : bList [.val (.lst ds)] = .ok (.own (.lst ds)) := rfl
theorem list_lo (ds : List D) : bList [.own (.lst ds)] = .ok (.own (.lst ds)) := rfl
theorem list_lb (ds : List D) : bList [.bor (.lst ds)] = .ok (.own (.lst ds)) := rfl
theorem list_tv (ds : List D) : bList [.val (.tup ds)] = .ok (.own (.lst ds)) := rfl
theorem tuple_lv (ds : List D) : bTuple [.val (.lst ds)] = .ok (.val (.tup ds)) := rfl
theorem tuple_lo (ds : List D) : bTuple [.own (.lst ds)] = .ok (.val (.tup ds)) := rfl
theorem tuple_lb (ds : List D) : bTuple [.bor (.lst ds)] = .ok (.val (.tup ds)) := rfl
theorem tuple_tv (ds : List D) : bTuple [.val (.tup ds)] = .ok (.val (.tup ds)) := rfl
theorem all_o (ds : List D) : bAll [.own (.lst ds)] = optR (bls ds) fun bs => .val (.bl (bs.all id)) := by cases h2 : bls ds <;> simp [bAll, optR, h2]
theorem any_o (ds : List D) : bAny [.own (.lst ds)] = optR (bls ds) fun bs => .val (.bl (bs.any id)) := by cases h2 : bls ds <;> simp [bAny, optR, h2]
theorem sum_o (ds : List D) : bSum [.own (.lst ds)] = optR (ints' ds) fun bs => .val (.int bs.sum) := by cases h2 : ints' ds <;> simp [bSum, optR, h2]
theorem min_i (i j : Int) : bMin [.val (.int i), .val (.int j)] = .ok (.val (.int (if j < i then j else i))) := rfl
theorem max_i (i j : Int) : bMax [.val (.int i), .val (.int j)] = .ok (.val (.int (if j > i then j else i))) := rfl
theorem eBlt_k (f : List R → Res R) (ms : List (Env → Res R)) (ρ : Env) : eBlt f ms ρ = (eArgs ms ρ).bind f := rfl
def isiK (T : String) (r : R) : Res R := optR (isT T r.d) fun b => .val (.bl b)
theorem eIsi_k (T : String) (m : Env → Res R) (ρ : Env) : eIsi T m ρ = (m ρ).bind (isiK T) := by
  unfold eIsi
  congr 1
  funext r
  unfold isiK optR
  cases isT T r.d <;> rfl
theorem isi_bb (b : Bool) : isiK "bool" (.val (.bl b)) = .ok (.val (.bl true)) := rfl
theorem isi_ii (b : Int) : isiK "int" (.val (.int b)) = .ok (.val (.bl true)) := rfl
theorem isi_bi (b : Int) : isiK "bool" (.val (.int b)) = .ok (.val (.bl false)) := rfl
theorem isi_ss (b : Str) : isiK "str" (.val (.str b)) = .ok (.val (.bl true)) := rfl
theorem isi_st (b : List D) : isiK "str" (.val (.tup b)) = .ok (.val (.bl false)) := rfl
theorem isi_tt (b : List D) : isiK "tuple" (.val (.tup b)) = .ok (.val (.bl true)) := rfl
theorem isi_ts (b : Str) : isiK "tuple" (.val (.str b)) = .ok (.val (.bl false)) := rfl
theorem isi_it (b : List D) : isiK "int" (.val (.tup b)) = .ok (.val (.bl false)) := rfl
theorem isi_ti (b : Int) : isiK "tuple" (.val (.int b)) = .ok (.val (.bl false)) := rfl
theorem isi_si (b : Int) : isiK "str" (.val (.int b)) = .ok (.val (.bl false)) := rfl
theorem isi_ll (b : List D) : isiK "list" (.val (.lst b)) = .ok (.val (.bl true)) := rfl
theorem isi_lb (b : List D) : isiK "list" (.bor (.lst b)) = .ok (.val (.bl true)) := rfl
theorem isi_lo (b : List D) : isiK "list" (.own (.lst b)) = .ok (.val (.bl true)) := rfl
theorem eCall_k (f : List R → Res R) (ms : List (Env → Res R)) (ρ : Env) : eCall f ms ρ = (eArgs ms ρ).bind fun rs => f (rs.map R.arg) := rfl
theorem arg_v (d : D) : R.arg (.val d) = .val d := rfl
theorem arg_o (d : D) : R.arg (.own d) = .val d := rfl
theorem arg_b (d : D) : R.arg (.bor d) = .bor d := rfl
theorem froz_v (d : D) : R.froz (.val d) = some d := rfl
theorem froz_o (d : D) : R.froz (.own d) = some d := rfl
-- storing
theorem oBs_k (x : List R) (ρ : Env) (f : List R → Out) : oBs (.ok x) ρ f = f x := rfl
def bK (ret : Option Nat) (p j : Nat) (ρ : Env) (o : Out) : Out := match o with
  | .nx ρ' => backO ret p j ρ (.val .non) ρ'
  | .rt r ρ' => backO ret p j ρ r ρ'
  | _ => .stuck
def cK (run : List R → Out) (ret : Option Nat) (p j : Nat) (ρ : Env) (o : Option (List R)) : Out := match o with
  | some rs' => bK ret p j ρ (run rs')
  | none => .stuck
theorem callO_k (run : List R → Out) (ret : Option Nat) (p j : Nat) (d : D) (ρ : Env) (rs : List R) : callO run ret p j d ρ rs = cK run ret p j ρ (argO p d rs) := by
  unfold callO cK bK
  cases argO p d rs <;> rfl
theorem cK_s (run : List R → Out) (ret : Option Nat) (p j : Nat) (ρ : Env) (rs : List R) : cK run ret p j ρ (some rs) = bK ret p j ρ (run rs) := rfl
theorem bK_nx (ret : Option Nat) (p j : Nat) (ρ ρ' : Env) : bK ret p j ρ (.nx ρ') = backO ret p j ρ (.val .non) ρ' := rfl
theorem bK_rt (ret : Option Nat) (p j : Nat) (r : R) (ρ ρ' : Env) : bK ret p j ρ (.rt r ρ') = backO ret p j ρ r ρ' := rfl
def tK (t : Nat → Nat → Option Bool) (hs : List (Nat × (Env → Out))) (o : Out) : Out := match o with
  | .ex k pl ρ' => catchGo t k pl ρ' hs
  | o => o
theorem sTry_k (t : Nat → Nat → Option Bool) (mb : Env → Out) (hs : List (Nat × (Env → Out))) (ρ : Env) : sTry t mb hs ρ = tK t hs (mb ρ) := by
  unfold sTry tK
  cases mb ρ <;> rfl
theorem tK_nx (t : Nat → Nat → Option Bool) (hs : List (Nat × (Env → Out))) (ρ : Env) : tK t hs (.nx ρ) = .nx ρ := rfl
theorem tK_rt (t : Nat → Nat → Option Bool) (hs : List (Nat × (Env → Out))) (r : R) (ρ : Env) : tK t hs (.rt r ρ) = .rt r ρ := rfl
theorem tK_bk (t : Nat → Nat → Option Bool) (hs : List (Nat × (Env → Out))) (ρ : Env) : tK t hs (.bk ρ) = .bk ρ := rfl
theorem tK_ct (t : Nat → Nat → Option Bool) (hs : List (Nat × (Env → Out))) (ρ : Env) : tK t hs (.ct ρ) = .ct ρ := rfl
theorem tK_ex (t : Nat → Nat → Option Bool) (hs : List (Nat × (Env → Out))) (k : Nat) (pl : List (Str × D)) (ρ : Env) : tK t hs (.ex k pl ρ) = catchGo t k pl ρ hs := rfl
def caK (t : Nat → Nat → Option Bool) (k : Nat) (pl : List (Str × D)) (ρ : Env) (ms : Env → Out) (r : List (Nat × (Env → Out))) (b : Option Bool) : Out := match b with
  | some true => (match ms ρ with
    | .ex _ _ _ => .stuck
    | o => o)
  | some false => catchGo t k pl ρ r
  | none => .stuck
theorem catch_nil (t : Nat → Nat → Option Bool) (k : Nat) (pl : List (Str × D)) (ρ : Env) : catchGo t k pl ρ [] = .ex k pl ρ := by rw [catchGo]
theorem catch_cons (t : Nat → Nat → Option Bool) (k : Nat) (pl : List (Str × D)) (ρ : Env) (j : Nat) (ms : Env → Out) (r : List (Nat × (Env → Out))) : catchGo t k pl ρ ((j, ms) :: r) = caK t k pl ρ ms r (t k j) := by
  rw [catchGo]
  rfl
def noX (o : Out) : Out := match o with
  | .ex _ _ _ => .stuck
  | o => o
theorem caK_t (t : Nat → Nat → Option Bool) (k : Nat) (pl : List (Str × D)) (ρ : Env) (ms : Env → Out) (r : List (Nat × (Env → Out))) : caK t k pl ρ ms r (some true) = noX (ms ρ) := rfl
theorem caK_f (t : Nat → Nat → Option Bool) (k : Nat) (pl : List (Str × D)) (ρ : Env) (ms : Env → Out) (r : List (Nat × (Env → Out))) : caK t k pl ρ ms r (some false) = catchGo t k pl ρ r := rfl
theorem noX_nx (ρ : Env) : noX (.nx ρ) = .nx ρ := rfl
theorem noX_rt (r : R) (ρ : Env) : noX (.rt r ρ) = .rt r ρ := rfl
theorem noX_bk (ρ : Env) : noX (.bk ρ) = .bk ρ := rfl
theorem noX_ct (ρ : Env) : noX (.ct ρ) = .ct ρ := rfl
theorem setR_f (i : Nat) (d : D) (ρ : Env) : setR false i (.val d) ρ = .nx (ρ.set i (some (.val d))) := rfl
theorem setR_fo (i : Nat) (d : D) (ρ : Env) : setR false i (.own d) ρ = .nx (ρ.set i (some (.val d))) := rfl
theorem setR_t (i : Nat) (d : D) (ρ : Env) : setR true i (.own d) ρ = if i < ρ.length then .nx (ρ.set i (some (.own d))) else .stuck := rfl
def appK (i : Nat) (ds : List D) (ρ : Env) (r : R) : Out := match r.froz with
  | some d => if ds.length < LIM then .nx (ρ.set i (some (.own (.lst (ds ++ [d]))))) else .stuck
  | _ => .stuck
theorem sApp_k (i : Nat) (m : Env → Res R) (ρ : Env) : sApp i m ρ = onL i ρ fun ds => oB (m ρ) ρ (appK i ds ρ) := rfl
theorem appK_v (i : Nat) (ds : List D) (ρ : Env) (d : D) : appK i ds ρ (.val d) = if ds.length < LIM then .nx (ρ.set i (some (.own (.lst (ds ++ [d]))))) else .stuck := rfl
theorem appK_o (i : Nat) (ds : List D) (ρ : Env) (d : D) : appK i ds ρ (.own d) = if ds.length < LIM then .nx (ρ.set i (some (.own (.lst (ds ++ [d]))))) else .stuck := rfl
def extK (i : Nat) (ds : List D) (ρ : Env) (r : R) : Out := match r.froz with
  | some (.lst es) => if ds.length + es.length ≤ LIM then .nx (ρ.set i (some (.own (.lst (ds ++ es))))) else .stuck
  | _ => .stuck
theorem sExt_k (i : Nat) (m : Env → Res R) (ρ : Env) : sExt i m ρ = onL i ρ fun ds => oB (m ρ) ρ (extK i ds ρ) := rfl
theorem extK_v (i : Nat) (ds : List D) (ρ : Env) (es : List D) : extK i ds ρ (.val (.lst es)) = if ds.length + es.length ≤ LIM then .nx (ρ.set i (some (.own (.lst (ds ++ es))))) else .stuck := rfl
theorem extK_o (i : Nat) (ds : List D) (ρ : Env) (es : List D) : extK i ds ρ (.own (.lst es)) = if ds.length + es.length ≤ LIM then .nx (ρ.set i (some (.own (.lst (ds ++ es))))) else .stuck := rfl
def unpK (t : Tg) (ρ : Env) (r : R) : Out := match r.froz with
  | some d => (match bindD t d ρ with
    | some ρ1 => .nx ρ1
    | none => .stuck)
  | none => .stuck
theorem sUnp_k (t : Tg) (m : Env → Res R) (ρ : Env) : sUnp t m ρ = oB (m ρ) ρ (unpK t ρ) := rfl
theorem unpK_v (is : List Nat) (ds : List D) (ρ : Env) : unpK (.many is) ρ (.val (.tup ds)) = if ds.length = is.length then .nx (setAll ρ is (vals ds)) else .stuck := by
  unfold unpK bindD
  simp only [R.froz]
  by_cases h : ds.length = is.length
  · rw [if_pos h, if_pos h]
  · rw [if_neg h, if_neg h]
-- what is walked
def forK (t : Tg) (mb : Env → Out) (ρ : Env) (x : Res (List D)) : Out := match x with
  | .ok ds => forGo t mb ds ρ
  | .exc k pl => .ex k pl ρ
  | .stuck => .stuck
theorem sFor_k (t : Tg) (src : Env → Res (List D)) (mb : Env → Out) (ρ : Env) : sFor t src mb ρ = forK t mb ρ (src ρ) := by
  unfold sFor forK
  cases src ρ <;> rfl
theorem forK_ok (t : Tg) (mb : Env → Out) (ρ : Env) (ds : List D) : forK t mb ρ (.ok ds) = forGo t mb ds ρ := rfl
def itemsX (r : R) : Res (List D) := if r.exact then itemsD r else .stuck
theorem eSeqX_k (m : Env → Res R) (ρ : Env) : eSeqX m ρ = (m ρ).bind itemsX := by
  unfold eSeqX toRes Res.bind itemsX
  cases m ρ <;> rfl
theorem eSeq_k (m : Env → Res R) (ρ : Env) : eSeq m ρ = (m ρ).bind itemsD := by
  unfold eSeq toRes Res.bind
  cases m ρ <;> rfl
theorem it_lv (ds : List D) : itemsX (.val (.lst ds)) = .ok ds := rfl
theorem it_lo (ds : List D) : itemsX (.own (.lst ds)) = .ok ds := rfl
theorem it_tv (ds : List D) : itemsX (.val (.tup ds)) = .ok ds := rfl
theorem it_s (z : Str) : itemsX (.val (.str z)) = if z.length ≤ LIM then .ok (signs z) else .stuck := rfl
theorem id_lv (ds : List D) : itemsD (.val (.lst ds)) = .ok ds := rfl
theorem id_lo (ds : List D) : itemsD (.own (.lst ds)) = .ok ds := rfl
theorem id_lb (ds : List D) : itemsD (.bor (.lst ds)) = .ok ds := rfl
theorem id_tv (ds : List D) : itemsD (.val (.tup ds)) = .ok ds := rfl
theorem id_tb (ds : List D) : itemsD (.bor (.tup ds)) = .ok ds := rfl
theorem id_s (z : Str) : itemsD (.val (.str z)) = if z.length ≤ LIM then .ok (signs z) else .stuck := rfl
def rngK : List R → Res R
  | [r] => (rng1 r).bind fun ds => .ok (.val (.lst ds))
  | [r, r'] => (rng2 r r').bind fun ds => .ok (.val (.lst ds))
  | _ => .stuck
theorem eRngV_k (ms : List (Env → Res R)) (ρ : Env) : eRngV ms ρ = (eArgs ms ρ).bind rngK := by
  unfold eRngV eRng Res.bind rngK
  cases h : eArgs ms ρ with
  | ok rs =>
    simp only
    match rs with
    | [] => rfl
    | [r] => simp only; unfold Res.bind; cases rng1 r <;> rfl
    | [r, r'] => simp only; unfold Res.bind; cases rng2 r r' <;> rfl
    | _ :: _ :: _ :: _ => rfl
  | exc c pl => rfl
  | stuck => rfl
theorem rng_1 (n : Int) : rngK [.val (.int n)] = if (decide (n ≤ 1000000) && decide (-1000000 ≤ n)) = true then .ok (.val (.lst (rngD 0 n.toNat))) else .stuck := by
  unfold rngK rng1
  simp only [R.d]
  by_cases h : (decide (n ≤ 1000000) && decide (-1000000 ≤ n)) = true
  · rw [if_pos h, if_pos h]; rfl
  · rw [if_neg h, if_neg h]; rfl
theorem rng_2 (i j : Int) : rngK [.val (.int i), .val (.int j)] = if (decide (i ≤ 1000000) && decide (-1000000 ≤ i) && decide (j ≤ 1000000) && decide (-1000000 ≤ j)) = true then .ok (.val (.lst (rngD i (j - i).toNat))) else .stuck := by
  unfold rngK rng2
  simp only [R.d]
  by_cases h : (decide (i ≤ 1000000) && decide (-1000000 ≤ i) && decide (j ≤ 1000000) && decide (-1000000 ≤ j)) = true
  · rw [if_pos h, if_pos h]; rfl
  · rw [if_neg h, if_neg h]; rfl
def lcK (x : Res (List D)) : Res R := match x with
  | .ok acc => .ok (.own (.lst acc))
  | _ => .stuck
theorem eLc_k (t : Tg) (src : Env → Res (List D)) (tt : Option (Env → Res R)) (elt : Env → Res R) (ρ : Env) : eLc t src tt elt ρ = (src ρ).bind fun ds => lcK (lcGo (fun d => bindD t d (wipeE ρ t.slots)) tt elt ds []) := by
  unfold eLc Res.bind lcK
  cases src ρ <;> rfl
theorem lcK_ok (acc : List D) : lcK (.ok acc) = .ok (.own (.lst acc)) := rfl
def tupK (o : Option (List D)) : Res R := match o with
  | some ds => if ds.length ≤ LIM then .ok (.val (.tup ds)) else .stuck
  | none => .stuck
def lstK (o : Option (List D)) : Res R := match o with
  | some ds => if ds.length ≤ LIM then .ok (.own (.lst ds)) else .stuck
  | none => .stuck
theorem eTup_k (ms : List (Env → Res R)) (ρ : Env) : eTup ms ρ = (eArgs ms ρ).bind fun rs => tupK (frozs rs) := rfl
theorem eLst_k (ms : List (Env → Res R)) (ρ : Env) : eLst ms ρ = (eArgs ms ρ).bind fun rs => lstK (frozs rs) := rfl
theorem tupK_s (ds : List D) : tupK (some ds) = if ds.length ≤ LIM then .ok (.val (.tup ds)) else .stuck := rfl
theorem lstK_s (ds : List D) : lstK (some ds) = if ds.length ≤ LIM then .ok (.own (.lst ds)) else .stuck := rfl
def froK (o : Option D) (p : Option (List D)) : Option (List D) := match o, p with
  | some d, some ds => some (d :: ds)
  | _, _ => none
theorem frozs_nil : frozs [] = some [] := rfl
theorem frozs_cons (r : R) (rs : List R) : frozs (r :: rs) = froK r.froz (frozs rs) := by
  rw [frozs]
  rfl
theorem froK_s (d : D) (ds : List D) : froK (some d) (some ds) = some (d :: ds) := rfl
def joinK (a : Str) (o : Option (List Str)) : Res R := match o with
  | some ys => if (ys.map (·.length)).sum + ys.length * a.length ≤ LIM then .ok (.val (.str (Str.join a ys))) else .stuck
  | none => .stuck
theorem joinK_s (a : Str) (ys : List Str) : joinK a (some ys) = if (ys.map (·.length)).sum + ys.length * a.length ≤ LIM then .ok (.val (.str (Str.join a ys))) else .stuck := rfl
theorem join_o (a : Str) (ds : List D) : mJoin (.val (.str a)) (.own (.lst ds)) = joinK a (stsL ds) := by cases h2 : stsL ds <;> simp [mJoin, joinK, h2]
def joinX (m : Env → Res R) (ρ : Env) (x : R) : Res R := match x.d with
  | .str a => (m ρ).bind fun y => mJoin x y
  | _ => .stuck
theorem eJoin_k (mo m : Env → Res R) (ρ : Env) : eJoin mo m ρ = (mo ρ).bind (joinX m ρ) := rfl
theorem joinX_s (m : Env → Res R) (ρ : Env) (a : Str) : joinX m ρ (.val (.str a)) = (m ρ).bind fun y => mJoin (.val (.str a)) y := rfl
theorem cutL_to {α : Type} (xs : List α) (k : Nat) : cutL xs none (some (k : Int)) = xs.take k := by
  unfold cutL
  rw [HT.sIx_none, HT.sIx_nat, List.drop_zero, Nat.sub_zero]
  by_cases h : k ≤ xs.length
  · rw [Nat.min_eq_left h]
  · rw [Nat.min_eq_right (by omega), List.take_of_length_le (Nat.le_refl _), List.take_of_length_le (by omega)]
theorem cutL_from {α : Type} (xs : List α) (k : Nat) : cutL xs (some (k : Int)) none = xs.drop k := by
  unfold cutL
  rw [HT.sIx_none, HT.sIx_nat]
  by_cases h : k ≤ xs.length
  · rw [Nat.min_eq_left h, List.take_of_length_le (by rw [List.length_drop]; exact Nat.le_refl _)]
  · rw [Nat.min_eq_right (by omega), List.drop_eq_nil_of_le (Nat.le_refl _), List.drop_eq_nil_of_le (by omega)]
    simp
theorem lim_small {n : Nat} (h : n ≤ 1000) : n ≤ LIM := Nat.le_trans h (by decide)
theorem lim_mid {n : Nat} (h : n ≤ 100000) : n ≤ LIM := Nat.le_trans h (by decide)
def whN (mc : Env → Res R) (mb : Env → Out) (n : Nat) (o : Out) : Out := match o with
  | .nx ρ2 => whGo mc mb n ρ2
  | .ct ρ2 => whGo mc mb n ρ2
  | .bk ρ2 => .nx ρ2
  | o => o
def whK (mc : Env → Res R) (mb : Env → Out) (n : Nat) (ρ : Env) (r : R) : Out := match asBl r with
  | some true => whN mc mb n (mb ρ)
  | some false => .nx ρ
  | none => .stuck
theorem whGo_k (mc : Env → Res R) (mb : Env → Out) (n : Nat) (ρ : Env) : whGo mc mb (n + 1) ρ = oB (mc ρ) ρ (whK mc mb n ρ) := by
  rw [whGo]
  rfl
theorem whK_t (mc : Env → Res R) (mb : Env → Out) (n : Nat) (ρ : Env) : whK mc mb n ρ (.val (.bl true)) = whN mc mb n (mb ρ) := rfl
theorem whK_f (mc : Env → Res R) (mb : Env → Out) (n : Nat) (ρ : Env) : whK mc mb n ρ (.val (.bl false)) = .nx ρ := rfl
theorem whN_nx (mc : Env → Res R) (mb : Env → Out) (n : Nat) (ρ : Env) : whN mc mb n (.nx ρ) = whGo mc mb n ρ := rfl
theorem whN_ct (mc : Env → Res R) (mb : Env → Out) (n : Nat) (ρ : Env) : whN mc mb n (.ct ρ) = whGo mc mb n ρ := rfl
theorem whN_bk (mc : Env → Res R) (mb : Env → Out) (n : Nat) (ρ : Env) : whN mc mb n (.bk ρ) = .nx ρ := rfl
theorem whN_rt (mc : Env → Res R) (mb : Env → Out) (n : Nat) (r : R) (ρ : Env) : whN mc mb n (.rt r ρ) = .rt r ρ := rfl
theorem whN_ex (mc : Env → Res R) (mb : Env → Out) (n c : Nat) (pl : List (Str × D)) (ρ : Env) : whN mc mb n (.ex c pl ρ) = .ex c pl ρ := rfl
theorem cutS_le (z : Str) (lo hi : Option Int) : (cutS z lo hi).length ≤ z.length := by
  rw [len_cps, len_cps]
  simp only [cutS, List.length_take, List.length_drop]
  omega
-- dicts
theorem dk_s (s : Str) : dKey false (.val (.str s)) = some (.str s) := rfl
theorem dk_i (i : Int) : dKey false (.val (.int i)) = some (.int i) := rfl
theorem dk_t0 : dKey true (.val (.tup [])) = some (.tup []) := rfl
theorem dk_t1 (a : Str) : dKey true (.val (.tup [.str a])) = some (.tup [.str a]) := rfl
theorem dk_t2 (a b : Str) : dKey true (.val (.tup [.str a, .str b])) = some (.tup [.str a, .str b]) := rfl
theorem dk_t3 (a b c : Str) : dKey true (.val (.tup [.str a, .str b, .str c])) = some (.tup [.str a, .str b, .str c]) := rfl
def dputC (j : Nat) (tk : Bool) (ks ds : List D) (ρ : Env) : Option D → Option D → Out
  | some kk, some dd => if ds.length < LIM then .nx (ρ.set j (some (.own (.dct tk (dctPutK ks kk) (dctPutV ks ds kk dd))))) else .stuck
  | _, _ => .stuck
def dputA (j : Nat) (mk mv : Env → Res R) (ρ : Env) : D → Out
  | .dct tk ks ds => oB (mv ρ) ρ fun rv => oB (mk ρ) ρ fun rk => dputC j tk ks ds ρ (dKey tk rk) rv.froz
  | _ => .stuck
theorem sDput_k (j : Nat) (mk mv : Env → Res R) (ρ : Env) : sDput j mk mv ρ = onO j ρ (dputA j mk mv ρ) := by
  unfold sDput onO
  split
  · next d e =>
    cases d <;> rfl
  · rfl
theorem dputA_d (j : Nat) (mk mv : Env → Res R) (ρ : Env) (tk : Bool) (ks ds : List D) : dputA j mk mv ρ (.dct tk ks ds) = oB (mv ρ) ρ fun rv => oB (mk ρ) ρ fun rk => dputC j tk ks ds ρ (dKey tk rk) rv.froz := rfl
theorem dputC_k (j : Nat) (tk : Bool) (ks ds : List D) (ρ : Env) (kk dd : D) : dputC j tk ks ds ρ (some kk) (some dd) = if ds.length < LIM then .nx (ρ.set j (some (.own (.dct tk (dctPutK ks kk) (dctPutV ks ds kk dd))))) else .stuck := rfl
def dinC (n : Bool) (ks ds : List D) : Option D → Res R
  | some k => .ok (.val (.bl (if n then !(dctGet ks ds k).isSome else (dctGet ks ds k).isSome)))
  | none => .stuck
theorem eDin_k (n : Bool) (a b : Env → Res R) (ρ : Env) : eDin n a b ρ = (a ρ).bind fun x => (b ρ).bind fun y => opAnyIn n x y := rfl
theorem din_d (n : Bool) (x y : R) (tk : Bool) (ks ds : List D) (h : y.d = .dct tk ks ds) : opAnyIn n x y = dinC n ks ds (dKey tk x) := by
  unfold opAnyIn opDin
  rw [h]
  simp only [isDct, if_true]
  cases dKey tk x <;> rfl
theorem din_v (n : Bool) (x : R) (tk : Bool) (ks ds : List D) : opAnyIn n x (.val (.dct tk ks ds)) = dinC n ks ds (dKey tk x) := din_d n x _ tk ks ds rfl
theorem din_o (n : Bool) (x : R) (tk : Bool) (ks ds : List D) : opAnyIn n x (.own (.dct tk ks ds)) = dinC n ks ds (dKey tk x) := din_d n x _ tk ks ds rfl
theorem din_b (n : Bool) (x : R) (tk : Bool) (ks ds : List D) : opAnyIn n x (.bor (.dct tk ks ds)) = dinC n ks ds (dKey tk x) := din_d n x _ tk ks ds rfl
theorem ain_s (x : R) (s : Str) : opAnyIn false x (.val (.str s)) = opCmp .In x (.val (.str s)) := rfl
theorem anin_s (x : R) (s : Str) : opAnyIn true x (.val (.str s)) = opCmp .NotIn x (.val (.str s)) := rfl
theorem dinC_t (ks ds : List D) (k : D) : dinC true ks ds (some k) = .ok (.val (.bl !(dctGet ks ds k).isSome)) := rfl
theorem dinC_f (ks ds : List D) (k : D) : dinC false ks ds (some k) = .ok (.val (.bl (dctGet ks ds k).isSome)) := rfl
def ixC (ks ds : List D) : Option D → Res R
  | some k => optR (dctGet ks ds k) .val
  | none => .stuck
theorem ixC_k (ks ds : List D) (k : D) : ixC ks ds (some k) = optR (dctGet ks ds k) .val := rfl
theorem ix_dv (tk : Bool) (ks ds : List D) (y : R) : opIx (.val (.dct tk ks ds)) y = ixC ks ds (dKey tk y) := by
  unfold opIx
  simp only [R.d]
  cases h : dKey tk y with
  | none => rfl
  | some k => cases h2 : dctGet ks ds k <;> simp [ixC, optR, h2]
theorem ix_do (tk : Bool) (ks ds : List D) (y : R) : opIx (.own (.dct tk ks ds)) y = ixC ks ds (dKey tk y) := by
  unfold opIx
  simp only [R.d]
  cases h : dKey tk y with
  | none => rfl
  | some k => cases h2 : dctGet ks ds k <;> simp [ixC, optR, h2]
theorem ix_db (tk : Bool) (ks ds : List D) (y : R) : opIx (.bor (.dct tk ks ds)) y = ixC ks ds (dKey tk y) := by
  unfold opIx
  simp only [R.d]
  cases h : dKey tk y with
  | none => rfl
  | some k => cases h2 : dctGet ks ds k <;> simp [ixC, optR, h2]
def getO (z : R) : Option D → R
  | some d => .val d
  | none => z
theorem getO_some (z : R) (d : D) : getO z (some d) = .val d := rfl
theorem getO_none (z : R) : getO z none = z := rfl
def getC (ks ds : List D) (z : R) : Option D → Res R
  | some k => .ok (getO z (dctGet ks ds k))
  | none => .stuck
theorem getC_k (ks ds : List D) (z : R) (k : D) : getC ks ds z (some k) = .ok (getO z (dctGet ks ds k)) := rfl
theorem mGet_d {x : R} {tk : Bool} {ks ds : List D} (h : x.d = .dct tk ks ds) (y z : R) : mGet2 x y z = getC ks ds z (dKey tk y) := by
  unfold mGet2
  rw [h]
  simp only
  cases dKey tk y with
  | none => rfl
  | some k => cases h2 : dctGet ks ds k <;> simp [getC, getO, h2]
def get1K (m : Env → Res R) (ρ : Env) (x : R) : Res R := if isDct x.d then (m ρ).bind fun y => mGet2 x y (.val .non) else .stuck
def get2K (m m' : Env → Res R) (ρ : Env) (x : R) : Res R := if isDct x.d then (m ρ).bind fun y => (m' ρ).bind fun z => mGet2 x y z else .stuck
theorem eGet1_k (mo m : Env → Res R) (ρ : Env) : eGet1 mo m ρ = (mo ρ).bind (get1K m ρ) := rfl
theorem eGet2_k (mo m m' : Env → Res R) (ρ : Env) : eGet2 mo m m' ρ = (mo ρ).bind (get2K m m' ρ) := rfl
theorem get1_v (m : Env → Res R) (ρ : Env) (tk : Bool) (ks ds : List D) : get1K m ρ (.val (.dct tk ks ds)) = (m ρ).bind fun y => getC ks ds (.val .non) (dKey tk y) := by
  simp only [get1K, R.d, isDct, if_true]; congr 1; funext y; exact mGet_d rfl _ _
theorem get1_o (m : Env → Res R) (ρ : Env) (tk : Bool) (ks ds : List D) : get1K m ρ (.own (.dct tk ks ds)) = (m ρ).bind fun y => getC ks ds (.val .non) (dKey tk y) := by
  simp only [get1K, R.d, isDct, if_true]; congr 1; funext y; exact mGet_d rfl _ _
theorem get1_b (m : Env → Res R) (ρ : Env) (tk : Bool) (ks ds : List D) : get1K m ρ (.bor (.dct tk ks ds)) = (m ρ).bind fun y => getC ks ds (.val .non) (dKey tk y) := by
  simp only [get1K, R.d, isDct, if_true]; congr 1; funext y; exact mGet_d rfl _ _
theorem get2_v (m m' : Env → Res R) (ρ : Env) (tk : Bool) (ks ds : List D) : get2K m m' ρ (.val (.dct tk ks ds)) = (m ρ).bind fun y => (m' ρ).bind fun z => getC ks ds z (dKey tk y) := by
  simp only [get2K, R.d, isDct, if_true]; congr 1; funext y; congr 1; funext z; exact mGet_d rfl _ _
theorem get2_o (m m' : Env → Res R) (ρ : Env) (tk : Bool) (ks ds : List D) : get2K m m' ρ (.own (.dct tk ks ds)) = (m ρ).bind fun y => (m' ρ).bind fun z => getC ks ds z (dKey tk y) := by
  simp only [get2K, R.d, isDct, if_true]; congr 1; funext y; congr 1; funext z; exact mGet_d rfl _ _
theorem get2_b (m m' : Env → Res R) (ρ : Env) (tk : Bool) (ks ds : List D) : get2K m m' ρ (.bor (.dct tk ks ds)) = (m ρ).bind fun y => (m' ρ).bind fun z => getC ks ds z (dKey tk y) := by
  simp only [get2K, R.d, isDct, if_true]; congr 1; funext y; congr 1; funext z; exact mGet_d rfl _ _
end Mp

namespace Mp
open PySem L2

/-! ### what several laws draw by -/
theorem at_lit {z : Str} {n : Nat} (hz : z.length = n) {i : Int} (h0 : 0 ≤ i) (h1 : i < n) : ∃ c, atI z.cps.toList i = some c := by
  rw [len_cps] at hz
  rw [atI_in h0 (by omega), List.getElem?_eq_getElem (by omega)]
  exact ⟨_, rfl⟩
theorem rngD_mem {lo : Int} {n : Nat} {d : D} (h : d ∈ rngD lo n) : ∃ i : Nat, i < n ∧ d = .int (lo + (i : Nat)) := by
  obtain ⟨i, h1, h2⟩ := List.mem_map.mp h
  exact ⟨i, List.mem_range.mp h1, h2.symm⟩
theorem rngD_len (lo : Int) (n : Nat) : (rngD lo n).length = n := by simp [rngD]
/-- a list (tuple) of texts -/
def strsB (ds : List D) : Bool := ds.all fun d => match d with | .str _ => true | _ => false
theorem strsB_no : ∀ {ds : List D}, strsB ds = true → noDs ds = true ∧ deps ds = 0
  | [], _ => ⟨rfl, rfl⟩
  | d :: ds, h => by
    unfold strsB at h
    rw [List.all_cons, Bool.and_eq_true] at h
    obtain ⟨h1, h2⟩ := strsB_no (ds := ds) h.2
    cases d <;> first | (simp at h; done) | skip
    simp [noDs, deps, noD, dep, h1, h2]
theorem eqOk_st {w : Str} {ds : List D} (h : strsB ds = true) : eqOk (.str w) (.tup ds) = true := by
  obtain ⟨h1, h2⟩ := strsB_no h
  simp [eqOk, noD, dep, h1, h2]
theorem eqOk_sl {w : Str} {ds : List D} (h : strsB ds = true) : eqOk (.str w) (.lst ds) = true := by
  obtain ⟨h1, h2⟩ := strsB_no h
  simp [eqOk, noD, dep, h1, h2]
theorem in_tb (w : Str) {ds : List D} (h : strsB ds = true) : cpIn (.val (.str w)) (.bor (.tup ds)) = .ok (.val (.bl (inD (.str w) ds))) := by
  simp only [cpIn, opIn, R.d, eqOk_st h, if_true]
  rfl
theorem in_lo (w : Str) {ds : List D} (h : strsB ds = true) : cpIn (.val (.str w)) (.own (.lst ds)) = .ok (.val (.bl (inD (.str w) ds))) := by
  simp only [cpIn, opIn, R.d, eqOk_sl h, if_true]
  rfl
theorem nin_lo (w : Str) {ds : List D} (h : strsB ds = true) : cpNin (.val (.str w)) (.own (.lst ds)) = .ok (.val (.bl !inD (.str w) ds)) := by
  simp only [cpNin, opIn, R.d, eqOk_sl h, if_true]
  rfl
/-- the cells of the first laws -/
def d_cell1 : Df := ⟨2, ["_law_script", "_law_k", "_law_number"],
  [.ite (.cmp .Lt (.var 1) (.blt .len [.var 0]))
    [.ret (.bin .Add (.bin .Mult (.ix (.var 0) (.var 1)) (.cst (.int 48271))) (.bin .Mult (.cst (.int 7919)) (.var 1)))]
    [],
  .set false 2 (.bin .Add (.bin .Mult (.cst (.int 7919)) (.var 1)) (.cst (.int 11))),
  .ite (.cmp .Gt (.blt .len [.var 0]) (.cst (.int 0)))
    [.set false 2 (.bin .Add (.bin .Mult (.bin .Mod (.ix (.var 0) (.bin .Mod (.var 1) (.blt .len [.var 0]))) (.cst (.int 1000003))) (.cst (.int 48271))) (.bin .Mult (.bin .Mult (.cst (.int 7919)) (.var 1)) (.var 1)))]
    [],
  .ret (.bin .Mod (.var 2) (.cst (.int 2147483647)))], none⟩
def cell1 (s : List Int) (k : Int) : Int := if k < s.length then (s.getD k.toNat 0) * 48271 + 7919 * k else
  if 0 < (s.length : Int) then ((s.getD (k % s.length).toNat 0) % 1000003 * 48271 + 7919 * k * k) % 2147483647 else (7919 * k + 11) % 2147483647
theorem cell1_eq (g : G) (s : List Int) (k : Int) (h0 : 0 ≤ k) (h1 : k ≤ 1000) : runD g d_cell1 [.bor (.lst (s.map D.int)), .val (.int k)] = .ok (.val (.int (cell1 s k))) := by
  unfold cell1
  by_cases h : k < s.length
  · have e := atS h0 h
    have hd := decide_eq_true h
    rw [if_pos h]
    simp only [dn_get1, dn_dct0, dn_din, ds_dput, dk_s, dk_i, dk_t0, dk_t1, dk_t2, dk_t3, sDput_k, dputA_d, dputC_k, eDin_k, din_v, din_o, din_b, ain_s, anin_s, dinC_t, dinC_f, ix_dv, ix_do, ix_db, ixC_k, getO_some, getO_none, getC_k, eGet1_k, eGet2_k, get1_v, get1_o, get1_b, get2_v, get2_o, get2_b, runD, runO, st0, run_rn, runO_rn, fin_nx, fin_rt, fin_ex, denB_nil, denB_cons, dens, dn_var, dn_cst, dn_glo, dn_tup, dn_lst, dn_and, dn_or, dn_not, dn_neg, dn_bin, dn_cmp, dn_chn, dn_ite, dn_ix, dn_sl, dn_blt, dn_isi, dn_join, dn_get2, dn_call, dn_rng, dn_lc, ds_pass, ds_brk, ds_cnt, ds_drop, ds_ret, ds_retN, ds_retV, ds_set, ds_unp, ds_ite, ds_fore, ds_whl, ds_app, ds_ext, ds_clr, ds_frz, ds_lend, ds_callO, ds_raise, ds_tryM, denL, List.zip_cons_cons, List.zip_nil_left, List.zip_nil_right, sTry_k, tK_nx, tK_rt, tK_bk, tK_ct, tK_ex, catch_nil, catch_cons, caK_t, caK_f, noX_nx, noX_rt, noX_bk, noX_ct, oSeq_k, oK_nx, oK_rt, oK_bk, oK_ct, oK_ex, oK_st, oB_ok, oB_exc, Res.bind_ok, Res.bind_exc, Res.bind_stuck, sSet, sIf_k, oIf_t, oIf_f, sRet, sRetV, sRetN, sDrop, sFrz, sApp_k, appK_v, appK_o, sExt_k, extK_v, extK_o, sClr, onL, sLend, sCallO, onO, oBs_k, callO_k, cK_s, bK_nx, bK_rt, backO, argO, Option.map_some, sUnp_k, unpK_v, setAll, vals, sFor_k, forK_ok, whK_t, whK_f, whN_nx, whN_ct, whN_bk, whN_rt, whN_ex, eVar, eArgs_nil, eArgs_cons, eTup_k, eLst_k, tupK_s, lstK_s, frozs_nil, frozs_cons, froK_s, froz_v, froz_o, eAnd_k, eOr_k, eNot_k, eIte_k, andK_t, andK_f, orK_t, orK_f, iteK_t, iteK_f, notK_b, eNeg, neg_i, eBin, bin_add, bin_sub, bin_mul, bin_div, bin_mod, bin_pow, add_i, add_s, add_oo, add_ov, add_vo, add_vv, sub_i, mul_r, mul_l, mul_s, mul_o, div_p, mod_p, pow_p, eCmp, c_eq, c_ne, c_lt, c_le, c_gt, c_ge, c_is, c_in, c_nin, eq_ii, eq_ss, eq_bb, ne_ii, ne_ss, ne_bb, lt_ii, le_ii, gt_ii, ge_ii, in_ss, nin_ss, eIx, optR_some, ix_lv, ix_lo, ix_lb, ix_tv, ix_tb, ix_s, eSl_k, sl_s, sl_lv, sl_lo, sl_lb, sl_tv, part_none, part_some, pK_i, eBlt_k, len_s, len_lv, len_lo, len_lb, len_tv, len_tb, str_p, int_i, int_b, list_lv, list_lo, list_lb, list_tv, tuple_lv, tuple_lo, tuple_lb, tuple_tv, all_o, any_o, sum_o, min_i, max_i, eIsi_k, isi_bb, isi_ii, isi_bi, isi_ss, isi_st, isi_tt, isi_ts, isi_it, isi_ti, isi_si, isi_ll, isi_lb, isi_lo, eCall_k, arg_v, arg_o, arg_b, eJoin_k, joinX_s, join_o, joinK_s, eGlo, setR_f, setR_fo, setR_t, eSeqX_k, eSeq_k, it_lv, it_lo, it_tv, it_s, id_lv, id_lo, id_lb, id_tv, id_tb, id_s, eRngV_k, rng_1, rng_2, eLc_k, lcK_ok, ofD, Bt.fn, Ty.T, List.map_cons, List.map_nil, List.head?_cons, List.head?_nil, List.length_cons, List.length_nil, List.cons_append, List.nil_append, List.replicate_succ, List.replicate_zero, List.getElem?_cons_zero, List.getElem?_cons_succ, List.set_cons_zero, List.set_cons_succ, Nat.reduceSub, Nat.reduceAdd, Nat.zero_add, if_true, Bool.false_eq_true, if_false, Bool.and_true, Bool.true_and, Nat.zero_le, decide_true, Bool.or_true, Bool.true_or, decide_false, Int.reduceLT, Int.reduceLE, Int.reduceMul, Int.reduceAdd, Int.reduceSub, Int.reduceNeg, Int.reduceToNat, Int.reduceMod, Int.reduceDiv, Nat.reduceLeDiff, Nat.reduceLT, Bool.not_true, Bool.not_false, Bool.and_self, beq_self_eq_true, Int.reducePow, Nat.reducePow, Int.reduceBEq, d_cell1, List.length_map, hd, e]
  · have hd := decide_eq_false h
    rw [if_neg h]
    by_cases h2 : 0 < (s.length : Int)
    · have hd2 := decide_eq_true h2
      have e := atS (s := s) (k := k % s.length) (Int.emod_nonneg _ (by omega)) (Int.emod_lt_of_pos _ h2)
      rw [if_pos h2]
      simp only [dn_get1, dn_dct0, dn_din, ds_dput, dk_s, dk_i, dk_t0, dk_t1, dk_t2, dk_t3, sDput_k, dputA_d, dputC_k, eDin_k, din_v, din_o, din_b, ain_s, anin_s, dinC_t, dinC_f, ix_dv, ix_do, ix_db, ixC_k, getO_some, getO_none, getC_k, eGet1_k, eGet2_k, get1_v, get1_o, get1_b, get2_v, get2_o, get2_b, runD, runO, st0, run_rn, runO_rn, fin_nx, fin_rt, fin_ex, denB_nil, denB_cons, dens, dn_var, dn_cst, dn_glo, dn_tup, dn_lst, dn_and, dn_or, dn_not, dn_neg, dn_bin, dn_cmp, dn_chn, dn_ite, dn_ix, dn_sl, dn_blt, dn_isi, dn_join, dn_get2, dn_call, dn_rng, dn_lc, ds_pass, ds_brk, ds_cnt, ds_drop, ds_ret, ds_retN, ds_retV, ds_set, ds_unp, ds_ite, ds_fore, ds_whl, ds_app, ds_ext, ds_clr, ds_frz, ds_lend, ds_callO, ds_raise, ds_tryM, denL, List.zip_cons_cons, List.zip_nil_left, List.zip_nil_right, sTry_k, tK_nx, tK_rt, tK_bk, tK_ct, tK_ex, catch_nil, catch_cons, caK_t, caK_f, noX_nx, noX_rt, noX_bk, noX_ct, oSeq_k, oK_nx, oK_rt, oK_bk, oK_ct, oK_ex, oK_st, oB_ok, oB_exc, Res.bind_ok, Res.bind_exc, Res.bind_stuck, sSet, sIf_k, oIf_t, oIf_f, sRet, sRetV, sRetN, sDrop, sFrz, sApp_k, appK_v, appK_o, sExt_k, extK_v, extK_o, sClr, onL, sLend, sCallO, onO, oBs_k, callO_k, cK_s, bK_nx, bK_rt, backO, argO, Option.map_some, sUnp_k, unpK_v, setAll, vals, sFor_k, forK_ok, whK_t, whK_f, whN_nx, whN_ct, whN_bk, whN_rt, whN_ex, eVar, eArgs_nil, eArgs_cons, eTup_k, eLst_k, tupK_s, lstK_s, frozs_nil, frozs_cons, froK_s, froz_v, froz_o, eAnd_k, eOr_k, eNot_k, eIte_k, andK_t, andK_f, orK_t, orK_f, iteK_t, iteK_f, notK_b, eNeg, neg_i, eBin, bin_add, bin_sub, bin_mul, bin_div, bin_mod, bin_pow, add_i, add_s, add_oo, add_ov, add_vo, add_vv, sub_i, mul_r, mul_l, mul_s, mul_o, div_p, mod_p, pow_p, eCmp, c_eq, c_ne, c_lt, c_le, c_gt, c_ge, c_is, c_in, c_nin, eq_ii, eq_ss, eq_bb, ne_ii, ne_ss, ne_bb, lt_ii, le_ii, gt_ii, ge_ii, in_ss, nin_ss, eIx, optR_some, ix_lv, ix_lo, ix_lb, ix_tv, ix_tb, ix_s, eSl_k, sl_s, sl_lv, sl_lo, sl_lb, sl_tv, part_none, part_some, pK_i, eBlt_k, len_s, len_lv, len_lo, len_lb, len_tv, len_tb, str_p, int_i, int_b, list_lv, list_lo, list_lb, list_tv, tuple_lv, tuple_lo, tuple_lb, tuple_tv, all_o, any_o, sum_o, min_i, max_i, eIsi_k, isi_bb, isi_ii, isi_bi, isi_ss, isi_st, isi_tt, isi_ts, isi_it, isi_ti, isi_si, isi_ll, isi_lb, isi_lo, eCall_k, arg_v, arg_o, arg_b, eJoin_k, joinX_s, join_o, joinK_s, eGlo, setR_f, setR_fo, setR_t, eSeqX_k, eSeq_k, it_lv, it_lo, it_tv, it_s, id_lv, id_lo, id_lb, id_tv, id_tb, id_s, eRngV_k, rng_1, rng_2, eLc_k, lcK_ok, ofD, Bt.fn, Ty.T, List.map_cons, List.map_nil, List.head?_cons, List.head?_nil, List.length_cons, List.length_nil, List.cons_append, List.nil_append, List.replicate_succ, List.replicate_zero, List.getElem?_cons_zero, List.getElem?_cons_succ, List.set_cons_zero, List.set_cons_succ, Nat.reduceSub, Nat.reduceAdd, Nat.zero_add, if_true, Bool.false_eq_true, if_false, Bool.and_true, Bool.true_and, Nat.zero_le, decide_true, Bool.or_true, Bool.true_or, decide_false, Int.reduceLT, Int.reduceLE, Int.reduceMul, Int.reduceAdd, Int.reduceSub, Int.reduceNeg, Int.reduceToNat, Int.reduceMod, Int.reduceDiv, Nat.reduceLeDiff, Nat.reduceLT, Bool.not_true, Bool.not_false, Bool.and_self, beq_self_eq_true, Int.reducePow, Nat.reducePow, Int.reduceBEq, d_cell1, List.length_map, hd, hd2, e, h2, show (-18446744073709551616 : Int) < k by omega, show k < 18446744073709551616 by omega]
    · have hd2 := decide_eq_false h2
      rw [if_neg h2]
      simp only [dn_get1, dn_dct0, dn_din, ds_dput, dk_s, dk_i, dk_t0, dk_t1, dk_t2, dk_t3, sDput_k, dputA_d, dputC_k, eDin_k, din_v, din_o, din_b, ain_s, anin_s, dinC_t, dinC_f, ix_dv, ix_do, ix_db, ixC_k, getO_some, getO_none, getC_k, eGet1_k, eGet2_k, get1_v, get1_o, get1_b, get2_v, get2_o, get2_b, runD, runO, st0, run_rn, runO_rn, fin_nx, fin_rt, fin_ex, denB_nil, denB_cons, dens, dn_var, dn_cst, dn_glo, dn_tup, dn_lst, dn_and, dn_or, dn_not, dn_neg, dn_bin, dn_cmp, dn_chn, dn_ite, dn_ix, dn_sl, dn_blt, dn_isi, dn_join, dn_get2, dn_call, dn_rng, dn_lc, ds_pass, ds_brk, ds_cnt, ds_drop, ds_ret, ds_retN, ds_retV, ds_set, ds_unp, ds_ite, ds_fore, ds_whl, ds_app, ds_ext, ds_clr, ds_frz, ds_lend, ds_callO, ds_raise, ds_tryM, denL, List.zip_cons_cons, List.zip_nil_left, List.zip_nil_right, sTry_k, tK_nx, tK_rt, tK_bk, tK_ct, tK_ex, catch_nil, catch_cons, caK_t, caK_f, noX_nx, noX_rt, noX_bk, noX_ct, oSeq_k, oK_nx, oK_rt, oK_bk, oK_ct, oK_ex, oK_st, oB_ok, oB_exc, Res.bind_ok, Res.bind_exc, Res.bind_stuck, sSet, sIf_k, oIf_t, oIf_f, sRet, sRetV, sRetN, sDrop, sFrz, sApp_k, appK_v, appK_o, sExt_k, extK_v, extK_o, sClr, onL, sLend, sCallO, onO, oBs_k, callO_k, cK_s, bK_nx, bK_rt, backO, argO, Option.map_some, sUnp_k, unpK_v, setAll, vals, sFor_k, forK_ok, whK_t, whK_f, whN_nx, whN_ct, whN_bk, whN_rt, whN_ex, eVar, eArgs_nil, eArgs_cons, eTup_k, eLst_k, tupK_s, lstK_s, frozs_nil, frozs_cons, froK_s, froz_v, froz_o, eAnd_k, eOr_k, eNot_k, eIte_k, andK_t, andK_f, orK_t, orK_f, iteK_t, iteK_f, notK_b, eNeg, neg_i, eBin, bin_add, bin_sub, bin_mul, bin_div, bin_mod, bin_pow, add_i, add_s, add_oo, add_ov, add_vo, add_vv, sub_i, mul_r, mul_l, mul_s, mul_o, div_p, mod_p, pow_p, eCmp, c_eq, c_ne, c_lt, c_le, c_gt, c_ge, c_is, c_in, c_nin, eq_ii, eq_ss, eq_bb, ne_ii, ne_ss, ne_bb, lt_ii, le_ii, gt_ii, ge_ii, in_ss, nin_ss, eIx, optR_some, ix_lv, ix_lo, ix_lb, ix_tv, ix_tb, ix_s, eSl_k, sl_s, sl_lv, sl_lo, sl_lb, sl_tv, part_none, part_some, pK_i, eBlt_k, len_s, len_lv, len_lo, len_lb, len_tv, len_tb, str_p, int_i, int_b, list_lv, list_lo, list_lb, list_tv, tuple_lv, tuple_lo, tuple_lb, tuple_tv, all_o, any_o, sum_o, min_i, max_i, eIsi_k, isi_bb, isi_ii, isi_bi, isi_ss, isi_st, isi_tt, isi_ts, isi_it, isi_ti, isi_si, isi_ll, isi_lb, isi_lo, eCall_k, arg_v, arg_o, arg_b, eJoin_k, joinX_s, join_o, joinK_s, eGlo, setR_f, setR_fo, setR_t, eSeqX_k, eSeq_k, it_lv, it_lo, it_tv, it_s, id_lv, id_lo, id_lb, id_tv, id_tb, id_s, eRngV_k, rng_1, rng_2, eLc_k, lcK_ok, ofD, Bt.fn, Ty.T, List.map_cons, List.map_nil, List.head?_cons, List.head?_nil, List.length_cons, List.length_nil, List.cons_append, List.nil_append, List.replicate_succ, List.replicate_zero, List.getElem?_cons_zero, List.getElem?_cons_succ, List.set_cons_zero, List.set_cons_succ, Nat.reduceSub, Nat.reduceAdd, Nat.zero_add, if_true, Bool.false_eq_true, if_false, Bool.and_true, Bool.true_and, Nat.zero_le, decide_true, Bool.or_true, Bool.true_or, decide_false, Int.reduceLT, Int.reduceLE, Int.reduceMul, Int.reduceAdd, Int.reduceSub, Int.reduceNeg, Int.reduceToNat, Int.reduceMod, Int.reduceDiv, Nat.reduceLeDiff, Nat.reduceLT, Bool.not_true, Bool.not_false, Bool.and_self, beq_self_eq_true, Int.reducePow, Nat.reducePow, Int.reduceBEq, d_cell1, List.length_map, hd, hd2]
/-- .. of the later ones -/
def d_cell2 : Df := ⟨2, ["_law_script", "_law_k", "_law_number"],
  [.ite (.cmp .Lt (.var 1) (.blt .len [.var 0]))
    [.ret (.ix (.var 0) (.var 1))]
    [],
  .set false 2 (.bin .Add (.bin .Mult (.var 1) (.cst (.int 7919))) (.cst (.int 5))),
  .ite (.cmp .Gt (.blt .len [.var 0]) (.cst (.int 0)))
    [.set false 2 (.bin .Mod (.bin .Add (.bin .Mult (.ix (.var 0) (.bin .Mod (.bin .Mult (.var 1) (.cst (.int 7))) (.blt .len [.var 0]))) (.cst (.int 48271))) (.bin .Mult (.var 1) (.cst (.int 7919)))) (.cst (.int 2147483647)))]
    [],
  .ret (.bin .Mod (.bin .Mult (.var 2) (.var 2)) (.cst (.int 2147483629)))], none⟩
def cell2 (s : List Int) (k : Int) : Int := if k < s.length then s.getD k.toNat 0 else
  if 0 < (s.length : Int) then (((s.getD (k * 7 % s.length).toNat 0) * 48271 + k * 7919) % 2147483647 * (((s.getD (k * 7 % s.length).toNat 0) * 48271 + k * 7919) % 2147483647)) % 2147483629 else ((k * 7919 + 5) * (k * 7919 + 5)) % 2147483629
theorem cell2_eq (g : G) (s : List Int) (k : Int) (h0 : 0 ≤ k) (h1 : k ≤ 1000) : runD g d_cell2 [.bor (.lst (s.map D.int)), .val (.int k)] = .ok (.val (.int (cell2 s k))) := by
  unfold cell2
  by_cases h : k < s.length
  · have e := atS h0 h
    have hd := decide_eq_true h
    rw [if_pos h]
    simp only [dn_get1, dn_dct0, dn_din, ds_dput, dk_s, dk_i, dk_t0, dk_t1, dk_t2, dk_t3, sDput_k, dputA_d, dputC_k, eDin_k, din_v, din_o, din_b, ain_s, anin_s, dinC_t, dinC_f, ix_dv, ix_do, ix_db, ixC_k, getO_some, getO_none, getC_k, eGet1_k, eGet2_k, get1_v, get1_o, get1_b, get2_v, get2_o, get2_b, runD, runO, st0, run_rn, runO_rn, fin_nx, fin_rt, fin_ex, denB_nil, denB_cons, dens, dn_var, dn_cst, dn_glo, dn_tup, dn_lst, dn_and, dn_or, dn_not, dn_neg, dn_bin, dn_cmp, dn_chn, dn_ite, dn_ix, dn_sl, dn_blt, dn_isi, dn_join, dn_get2, dn_call, dn_rng, dn_lc, ds_pass, ds_brk, ds_cnt, ds_drop, ds_ret, ds_retN, ds_retV, ds_set, ds_unp, ds_ite, ds_fore, ds_whl, ds_app, ds_ext, ds_clr, ds_frz, ds_lend, ds_callO, ds_raise, ds_tryM, denL, List.zip_cons_cons, List.zip_nil_left, List.zip_nil_right, sTry_k, tK_nx, tK_rt, tK_bk, tK_ct, tK_ex, catch_nil, catch_cons, caK_t, caK_f, noX_nx, noX_rt, noX_bk, noX_ct, oSeq_k, oK_nx, oK_rt, oK_bk, oK_ct, oK_ex, oK_st, oB_ok, oB_exc, Res.bind_ok, Res.bind_exc, Res.bind_stuck, sSet, sIf_k, oIf_t, oIf_f, sRet, sRetV, sRetN, sDrop, sFrz, sApp_k, appK_v, appK_o, sExt_k, extK_v, extK_o, sClr, onL, sLend, sCallO, onO, oBs_k, callO_k, cK_s, bK_nx, bK_rt, backO, argO, Option.map_some, sUnp_k, unpK_v, setAll, vals, sFor_k, forK_ok, whK_t, whK_f, whN_nx, whN_ct, whN_bk, whN_rt, whN_ex, eVar, eArgs_nil, eArgs_cons, eTup_k, eLst_k, tupK_s, lstK_s, frozs_nil, frozs_cons, froK_s, froz_v, froz_o, eAnd_k, eOr_k, eNot_k, eIte_k, andK_t, andK_f, orK_t, orK_f, iteK_t, iteK_f, notK_b, eNeg, neg_i, eBin, bin_add, bin_sub, bin_mul, bin_div, bin_mod, bin_pow, add_i, add_s, add_oo, add_ov, add_vo, add_vv, sub_i, mul_r, mul_l, mul_s, mul_o, div_p, mod_p, pow_p, eCmp, c_eq, c_ne, c_lt, c_le, c_gt, c_ge, c_is, c_in, c_nin, eq_ii, eq_ss, eq_bb, ne_ii, ne_ss, ne_bb, lt_ii, le_ii, gt_ii, ge_ii, in_ss, nin_ss, eIx, optR_some, ix_lv, ix_lo, ix_lb, ix_tv, ix_tb, ix_s, eSl_k, sl_s, sl_lv, sl_lo, sl_lb, sl_tv, part_none, part_some, pK_i, eBlt_k, len_s, len_lv, len_lo, len_lb, len_tv, len_tb, str_p, int_i, int_b, list_lv, list_lo, list_lb, list_tv, tuple_lv, tuple_lo, tuple_lb, tuple_tv, all_o, any_o, sum_o, min_i, max_i, eIsi_k, isi_bb, isi_ii, isi_bi, isi_ss, isi_st, isi_tt, isi_ts, isi_it, isi_ti, isi_si, isi_ll, isi_lb, isi_lo, eCall_k, arg_v, arg_o, arg_b, eJoin_k, joinX_s, join_o, joinK_s, eGlo, setR_f, setR_fo, setR_t, eSeqX_k, eSeq_k, it_lv, it_lo, it_tv, it_s, id_lv, id_lo, id_lb, id_tv, id_tb, id_s, eRngV_k, rng_1, rng_2, eLc_k, lcK_ok, ofD, Bt.fn, Ty.T, List.map_cons, List.map_nil, List.head?_cons, List.head?_nil, List.length_cons, List.length_nil, List.cons_append, List.nil_append, List.replicate_succ, List.replicate_zero, List.getElem?_cons_zero, List.getElem?_cons_succ, List.set_cons_zero, List.set_cons_succ, Nat.reduceSub, Nat.reduceAdd, Nat.zero_add, if_true, Bool.false_eq_true, if_false, Bool.and_true, Bool.true_and, Nat.zero_le, decide_true, Bool.or_true, Bool.true_or, decide_false, Int.reduceLT, Int.reduceLE, Int.reduceMul, Int.reduceAdd, Int.reduceSub, Int.reduceNeg, Int.reduceToNat, Int.reduceMod, Int.reduceDiv, Nat.reduceLeDiff, Nat.reduceLT, Bool.not_true, Bool.not_false, Bool.and_self, beq_self_eq_true, Int.reducePow, Nat.reducePow, Int.reduceBEq, d_cell2, List.length_map, hd, e]
  · have hd := decide_eq_false h
    rw [if_neg h]
    by_cases h2 : 0 < (s.length : Int)
    · have hd2 := decide_eq_true h2
      have e := atS (s := s) (k := k * 7 % s.length) (Int.emod_nonneg _ (by omega)) (Int.emod_lt_of_pos _ h2)
      rw [if_pos h2]
      generalize s.getD (k * 7 % s.length).toNat 0 = x at e
      have b1 : 0 ≤ (x * 48271 + k * 7919) % 2147483647 := by omega
      have b2 : (x * 48271 + k * 7919) % 2147483647 < 2147483647 := by omega
      simp only [dn_get1, dn_dct0, dn_din, ds_dput, dk_s, dk_i, dk_t0, dk_t1, dk_t2, dk_t3, sDput_k, dputA_d, dputC_k, eDin_k, din_v, din_o, din_b, ain_s, anin_s, dinC_t, dinC_f, ix_dv, ix_do, ix_db, ixC_k, getO_some, getO_none, getC_k, eGet1_k, eGet2_k, get1_v, get1_o, get1_b, get2_v, get2_o, get2_b, runD, runO, st0, run_rn, runO_rn, fin_nx, fin_rt, fin_ex, denB_nil, denB_cons, dens, dn_var, dn_cst, dn_glo, dn_tup, dn_lst, dn_and, dn_or, dn_not, dn_neg, dn_bin, dn_cmp, dn_chn, dn_ite, dn_ix, dn_sl, dn_blt, dn_isi, dn_join, dn_get2, dn_call, dn_rng, dn_lc, ds_pass, ds_brk, ds_cnt, ds_drop, ds_ret, ds_retN, ds_retV, ds_set, ds_unp, ds_ite, ds_fore, ds_whl, ds_app, ds_ext, ds_clr, ds_frz, ds_lend, ds_callO, ds_raise, ds_tryM, denL, List.zip_cons_cons, List.zip_nil_left, List.zip_nil_right, sTry_k, tK_nx, tK_rt, tK_bk, tK_ct, tK_ex, catch_nil, catch_cons, caK_t, caK_f, noX_nx, noX_rt, noX_bk, noX_ct, oSeq_k, oK_nx, oK_rt, oK_bk, oK_ct, oK_ex, oK_st, oB_ok, oB_exc, Res.bind_ok, Res.bind_exc, Res.bind_stuck, sSet, sIf_k, oIf_t, oIf_f, sRet, sRetV, sRetN, sDrop, sFrz, sApp_k, appK_v, appK_o, sExt_k, extK_v, extK_o, sClr, onL, sLend, sCallO, onO, oBs_k, callO_k, cK_s, bK_nx, bK_rt, backO, argO, Option.map_some, sUnp_k, unpK_v, setAll, vals, sFor_k, forK_ok, whK_t, whK_f, whN_nx, whN_ct, whN_bk, whN_rt, whN_ex, eVar, eArgs_nil, eArgs_cons, eTup_k, eLst_k, tupK_s, lstK_s, frozs_nil, frozs_cons, froK_s, froz_v, froz_o, eAnd_k, eOr_k, eNot_k, eIte_k, andK_t, andK_f, orK_t, orK_f, iteK_t, iteK_f, notK_b, eNeg, neg_i, eBin, bin_add, bin_sub, bin_mul, bin_div, bin_mod, bin_pow, add_i, add_s, add_oo, add_ov, add_vo, add_vv, sub_i, mul_r, mul_l, mul_s, mul_o, div_p, mod_p, pow_p, eCmp, c_eq, c_ne, c_lt, c_le, c_gt, c_ge, c_is, c_in, c_nin, eq_ii, eq_ss, eq_bb, ne_ii, ne_ss, ne_bb, lt_ii, le_ii, gt_ii, ge_ii, in_ss, nin_ss, eIx, optR_some, ix_lv, ix_lo, ix_lb, ix_tv, ix_tb, ix_s, eSl_k, sl_s, sl_lv, sl_lo, sl_lb, sl_tv, part_none, part_some, pK_i, eBlt_k, len_s, len_lv, len_lo, len_lb, len_tv, len_tb, str_p, int_i, int_b, list_lv, list_lo, list_lb, list_tv, tuple_lv, tuple_lo, tuple_lb, tuple_tv, all_o, any_o, sum_o, min_i, max_i, eIsi_k, isi_bb, isi_ii, isi_bi, isi_ss, isi_st, isi_tt, isi_ts, isi_it, isi_ti, isi_si, isi_ll, isi_lb, isi_lo, eCall_k, arg_v, arg_o, arg_b, eJoin_k, joinX_s, join_o, joinK_s, eGlo, setR_f, setR_fo, setR_t, eSeqX_k, eSeq_k, it_lv, it_lo, it_tv, it_s, id_lv, id_lo, id_lb, id_tv, id_tb, id_s, eRngV_k, rng_1, rng_2, eLc_k, lcK_ok, ofD, Bt.fn, Ty.T, List.map_cons, List.map_nil, List.head?_cons, List.head?_nil, List.length_cons, List.length_nil, List.cons_append, List.nil_append, List.replicate_succ, List.replicate_zero, List.getElem?_cons_zero, List.getElem?_cons_succ, List.set_cons_zero, List.set_cons_succ, Nat.reduceSub, Nat.reduceAdd, Nat.zero_add, if_true, Bool.false_eq_true, if_false, Bool.and_true, Bool.true_and, Nat.zero_le, decide_true, Bool.or_true, Bool.true_or, decide_false, Int.reduceLT, Int.reduceLE, Int.reduceMul, Int.reduceAdd, Int.reduceSub, Int.reduceNeg, Int.reduceToNat, Int.reduceMod, Int.reduceDiv, Nat.reduceLeDiff, Nat.reduceLT, Bool.not_true, Bool.not_false, Bool.and_self, beq_self_eq_true, Int.reducePow, Nat.reducePow, Int.reduceBEq, d_cell2, List.length_map, hd, hd2, e, h2, show (-18446744073709551616 : Int) < (x * 48271 + k * 7919) % 2147483647 by omega, show (x * 48271 + k * 7919) % 2147483647 < 18446744073709551616 by omega]
    · have hd2 := decide_eq_false h2
      rw [if_neg h2]
      simp only [dn_get1, dn_dct0, dn_din, ds_dput, dk_s, dk_i, dk_t0, dk_t1, dk_t2, dk_t3, sDput_k, dputA_d, dputC_k, eDin_k, din_v, din_o, din_b, ain_s, anin_s, dinC_t, dinC_f, ix_dv, ix_do, ix_db, ixC_k, getO_some, getO_none, getC_k, eGet1_k, eGet2_k, get1_v, get1_o, get1_b, get2_v, get2_o, get2_b, runD, runO, st0, run_rn, runO_rn, fin_nx, fin_rt, fin_ex, denB_nil, denB_cons, dens, dn_var, dn_cst, dn_glo, dn_tup, dn_lst, dn_and, dn_or, dn_not, dn_neg, dn_bin, dn_cmp, dn_chn, dn_ite, dn_ix, dn_sl, dn_blt, dn_isi, dn_join, dn_get2, dn_call, dn_rng, dn_lc, ds_pass, ds_brk, ds_cnt, ds_drop, ds_ret, ds_retN, ds_retV, ds_set, ds_unp, ds_ite, ds_fore, ds_whl, ds_app, ds_ext, ds_clr, ds_frz, ds_lend, ds_callO, ds_raise, ds_tryM, denL, List.zip_cons_cons, List.zip_nil_left, List.zip_nil_right, sTry_k, tK_nx, tK_rt, tK_bk, tK_ct, tK_ex, catch_nil, catch_cons, caK_t, caK_f, noX_nx, noX_rt, noX_bk, noX_ct, oSeq_k, oK_nx, oK_rt, oK_bk, oK_ct, oK_ex, oK_st, oB_ok, oB_exc, Res.bind_ok, Res.bind_exc, Res.bind_stuck, sSet, sIf_k, oIf_t, oIf_f, sRet, sRetV, sRetN, sDrop, sFrz, sApp_k, appK_v, appK_o, sExt_k, extK_v, extK_o, sClr, onL, sLend, sCallO, onO, oBs_k, callO_k, cK_s, bK_nx, bK_rt, backO, argO, Option.map_some, sUnp_k, unpK_v, setAll, vals, sFor_k, forK_ok, whK_t, whK_f, whN_nx, whN_ct, whN_bk, whN_rt, whN_ex, eVar, eArgs_nil, eArgs_cons, eTup_k, eLst_k, tupK_s, lstK_s, frozs_nil, frozs_cons, froK_s, froz_v, froz_o, eAnd_k, eOr_k, eNot_k, eIte_k, andK_t, andK_f, orK_t, orK_f, iteK_t, iteK_f, notK_b, eNeg, neg_i, eBin, bin_add, bin_sub, bin_mul, bin_div, bin_mod, bin_pow, add_i, add_s, add_oo, add_ov, add_vo, add_vv, sub_i, mul_r, mul_l, mul_s, mul_o, div_p, mod_p, pow_p, eCmp, c_eq, c_ne, c_lt, c_le, c_gt, c_ge, c_is, c_in, c_nin, eq_ii, eq_ss, eq_bb, ne_ii, ne_ss, ne_bb, lt_ii, le_ii, gt_ii, ge_ii, in_ss, nin_ss, eIx, optR_some, ix_lv, ix_lo, ix_lb, ix_tv, ix_tb, ix_s, eSl_k, sl_s, sl_lv, sl_lo, sl_lb, sl_tv, part_none, part_some, pK_i, eBlt_k, len_s, len_lv, len_lo, len_lb, len_tv, len_tb, str_p, int_i, int_b, list_lv, list_lo, list_lb, list_tv, tuple_lv, tuple_lo, tuple_lb, tuple_tv, all_o, any_o, sum_o, min_i, max_i, eIsi_k, isi_bb, isi_ii, isi_bi, isi_ss, isi_st, isi_tt, isi_ts, isi_it, isi_ti, isi_si, isi_ll, isi_lb, isi_lo, eCall_k, arg_v, arg_o, arg_b, eJoin_k, joinX_s, join_o, joinK_s, eGlo, setR_f, setR_fo, setR_t, eSeqX_k, eSeq_k, it_lv, it_lo, it_tv, it_s, id_lv, id_lo, id_lb, id_tv, id_tb, id_s, eRngV_k, rng_1, rng_2, eLc_k, lcK_ok, ofD, Bt.fn, Ty.T, List.map_cons, List.map_nil, List.head?_cons, List.head?_nil, List.length_cons, List.length_nil, List.cons_append, List.nil_append, List.replicate_succ, List.replicate_zero, List.getElem?_cons_zero, List.getElem?_cons_succ, List.set_cons_zero, List.set_cons_succ, Nat.reduceSub, Nat.reduceAdd, Nat.zero_add, if_true, Bool.false_eq_true, if_false, Bool.and_true, Bool.true_and, Nat.zero_le, decide_true, Bool.or_true, Bool.true_or, decide_false, Int.reduceLT, Int.reduceLE, Int.reduceMul, Int.reduceAdd, Int.reduceSub, Int.reduceNeg, Int.reduceToNat, Int.reduceMod, Int.reduceDiv, Nat.reduceLeDiff, Nat.reduceLT, Bool.not_true, Bool.not_false, Bool.and_self, beq_self_eq_true, Int.reducePow, Nat.reducePow, Int.reduceBEq, d_cell2, List.length_map, hd, hd2, show (-18446744073709551616 : Int) < k * 7919 + 5 by omega, show k * 7919 + 5 < 18446744073709551616 by omega]
theorem join_len (a : Str) : ∀ ys : List Str, (Str.join a ys).length ≤ (ys.map (·.length)).sum + ys.length * a.length
  | [] => Nat.zero_le _
  | [x] => by simp only [List.map_cons, List.map_nil, List.sum_cons, List.sum_nil]; exact Nat.le_trans (Nat.le_refl _) (Nat.le_add_right _ _)
  | x :: y :: r => by
    show (x ++ a ++ Str.join a (y :: r)).length ≤ _
    have ih := join_len a (y :: r)
    rw [len_app, len_app]
    simp only [List.map_cons, List.sum_cons, List.length_cons] at ih ⊢
    have : (r.length + 1 + 1) * a.length = (r.length + 1) * a.length + a.length := by rw [Nat.add_mul (r.length + 1) 1, Nat.one_mul]
    omega
theorem numS_len {n k : Nat} (hk : 0 < k) (h : n < 10 ^ k) : (numS n).length ≤ k := by
  rw [len_cps]
  exact TL.numL_len hk h
theorem len1 (c : Nat) : Str.length ⟨#[c]⟩ = 1 := rfl
theorem stsL_map {α : Type} (f : α → Str) : ∀ l : List α, stsL (l.map fun x => D.str (f x)) = some (l.map f)
  | [] => rfl
  | x :: l => by simp only [List.map_cons, stsL, stsL_map f l]; rfl
/-- a small letter -/
def d_letter : Df := ⟨1, ["_law_cell_here"],
  [.ret (.ix (.cst (.str "abcdefghijklmnopqrstuvwxyz")) (.bin .Mod (.var 0) (.cst (.int 26))))], none⟩
theorem letter_eq (g : G) (x : Int) : ∃ c, runD g d_letter [.val (.int x)] = .ok (.val (.str ⟨#[c]⟩)) := by
  obtain ⟨c, hc⟩ := at_lit (z := "abcdefghijklmnopqrstuvwxyz") (n := 26) (by decide +kernel) (i := x % 26) (by omega) (by omega)
  have hl : Str.length "abcdefghijklmnopqrstuvwxyz" ≤ LIM := by decide +kernel
  simp only [dn_get1, dn_dct0, dn_din, ds_dput, dk_s, dk_i, dk_t0, dk_t1, dk_t2, dk_t3, sDput_k, dputA_d, dputC_k, eDin_k, din_v, din_o, din_b, ain_s, anin_s, dinC_t, dinC_f, ix_dv, ix_do, ix_db, ixC_k, getO_some, getO_none, getC_k, eGet1_k, eGet2_k, get1_v, get1_o, get1_b, get2_v, get2_o, get2_b, runD, runO, st0, run_rn, runO_rn, fin_nx, fin_rt, fin_ex, denB_nil, denB_cons, dens, dn_var, dn_cst, dn_glo, dn_tup, dn_lst, dn_and, dn_or, dn_not, dn_neg, dn_bin, dn_cmp, dn_chn, dn_ite, dn_ix, dn_sl, dn_blt, dn_isi, dn_join, dn_get2, dn_call, dn_rng, dn_lc, ds_pass, ds_brk, ds_cnt, ds_drop, ds_ret, ds_retN, ds_retV, ds_set, ds_unp, ds_ite, ds_fore, ds_whl, ds_app, ds_ext, ds_clr, ds_frz, ds_lend, ds_callO, ds_raise, ds_tryM, denL, List.zip_cons_cons, List.zip_nil_left, List.zip_nil_right, sTry_k, tK_nx, tK_rt, tK_bk, tK_ct, tK_ex, catch_nil, catch_cons, caK_t, caK_f, noX_nx, noX_rt, noX_bk, noX_ct, oSeq_k, oK_nx, oK_rt, oK_bk, oK_ct, oK_ex, oK_st, oB_ok, oB_exc, Res.bind_ok, Res.bind_exc, Res.bind_stuck, sSet, sIf_k, oIf_t, oIf_f, sRet, sRetV, sRetN, sDrop, sFrz, sApp_k, appK_v, appK_o, sExt_k, extK_v, extK_o, sClr, onL, sLend, sCallO, onO, oBs_k, callO_k, cK_s, bK_nx, bK_rt, backO, argO, Option.map_some, sUnp_k, unpK_v, setAll, vals, sFor_k, forK_ok, whK_t, whK_f, whN_nx, whN_ct, whN_bk, whN_rt, whN_ex, eVar, eArgs_nil, eArgs_cons, eTup_k, eLst_k, tupK_s, lstK_s, frozs_nil, frozs_cons, froK_s, froz_v, froz_o, eAnd_k, eOr_k, eNot_k, eIte_k, andK_t, andK_f, orK_t, orK_f, iteK_t, iteK_f, notK_b, eNeg, neg_i, eBin, bin_add, bin_sub, bin_mul, bin_div, bin_mod, bin_pow, add_i, add_s, add_oo, add_ov, add_vo, add_vv, sub_i, mul_r, mul_l, mul_s, mul_o, div_p, mod_p, pow_p, eCmp, c_eq, c_ne, c_lt, c_le, c_gt, c_ge, c_is, c_in, c_nin, eq_ii, eq_ss, eq_bb, ne_ii, ne_ss, ne_bb, lt_ii, le_ii, gt_ii, ge_ii, in_ss, nin_ss, eIx, optR_some, ix_lv, ix_lo, ix_lb, ix_tv, ix_tb, ix_s, eSl_k, sl_s, sl_lv, sl_lo, sl_lb, sl_tv, part_none, part_some, pK_i, eBlt_k, len_s, len_lv, len_lo, len_lb, len_tv, len_tb, str_p, int_i, int_b, list_lv, list_lo, list_lb, list_tv, tuple_lv, tuple_lo, tuple_lb, tuple_tv, all_o, any_o, sum_o, min_i, max_i, eIsi_k, isi_bb, isi_ii, isi_bi, isi_ss, isi_st, isi_tt, isi_ts, isi_it, isi_ti, isi_si, isi_ll, isi_lb, isi_lo, eCall_k, arg_v, arg_o, arg_b, eJoin_k, joinX_s, join_o, joinK_s, eGlo, setR_f, setR_fo, setR_t, eSeqX_k, eSeq_k, it_lv, it_lo, it_tv, it_s, id_lv, id_lo, id_lb, id_tv, id_tb, id_s, eRngV_k, rng_1, rng_2, eLc_k, lcK_ok, ofD, Bt.fn, Ty.T, List.map_cons, List.map_nil, List.head?_cons, List.head?_nil, List.length_cons, List.length_nil, List.cons_append, List.nil_append, List.replicate_succ, List.replicate_zero, List.getElem?_cons_zero, List.getElem?_cons_succ, List.set_cons_zero, List.set_cons_succ, Nat.reduceSub, Nat.reduceAdd, Nat.zero_add, if_true, Bool.false_eq_true, if_false, Bool.and_true, Bool.true_and, Nat.zero_le, decide_true, Bool.or_true, Bool.true_or, decide_false, Int.reduceLT, Int.reduceLE, Int.reduceMul, Int.reduceAdd, Int.reduceSub, Int.reduceNeg, Int.reduceToNat, Int.reduceMod, Int.reduceDiv, Nat.reduceLeDiff, Nat.reduceLT, Bool.not_true, Bool.not_false, Bool.and_self, beq_self_eq_true, Int.reducePow, Nat.reducePow, Int.reduceBEq, d_letter, hc, hl]
  exact ⟨c, rfl⟩
/-- a sign -/
def d_sign : Df := ⟨1, ["_law_cell_here", "_law_some"],
  [.set false 1 (.cst (.str " !\"#$&'()*+,-./0123456789:;<=>?@ABCDEFGHIJKLMNOPQRSTUVWXYZ[\\]^_`")),
  .ret (.ix (.bin .Add (.var 1) (.cst (.str "abcdefghijklmnopqrstuvwxyz{|}~\n"))) (.bin .Mod (.var 0) (.cst (.int 95))))], none⟩
theorem sign_eq (g : G) (x : Int) : ∃ c, runD g d_sign [.val (.int x)] = .ok (.val (.str ⟨#[c]⟩)) := by
  obtain ⟨c, hc⟩ := at_lit (z := " !\"#$&'()*+,-./0123456789:;<=>?@ABCDEFGHIJKLMNOPQRSTUVWXYZ[\\]^_`" ++ "abcdefghijklmnopqrstuvwxyz{|}~\n") (n := 95) (by decide +kernel) (i := x % 95) (by omega) (by omega)
  have hl : Str.length (" !\"#$&'()*+,-./0123456789:;<=>?@ABCDEFGHIJKLMNOPQRSTUVWXYZ[\\]^_`" ++ "abcdefghijklmnopqrstuvwxyz{|}~\n") ≤ LIM := by decide +kernel
  have hl2 : Str.length " !\"#$&'()*+,-./0123456789:;<=>?@ABCDEFGHIJKLMNOPQRSTUVWXYZ[\\]^_`" + Str.length "abcdefghijklmnopqrstuvwxyz{|}~\n" ≤ LIM := by decide +kernel
  simp only [dn_get1, dn_dct0, dn_din, ds_dput, dk_s, dk_i, dk_t0, dk_t1, dk_t2, dk_t3, sDput_k, dputA_d, dputC_k, eDin_k, din_v, din_o, din_b, ain_s, anin_s, dinC_t, dinC_f, ix_dv, ix_do, ix_db, ixC_k, getO_some, getO_none, getC_k, eGet1_k, eGet2_k, get1_v, get1_o, get1_b, get2_v, get2_o, get2_b, runD, runO, st0, run_rn, runO_rn, fin_nx, fin_rt, fin_ex, denB_nil, denB_cons, dens, dn_var, dn_cst, dn_glo, dn_tup, dn_lst, dn_and, dn_or, dn_not, dn_neg, dn_bin, dn_cmp, dn_chn, dn_ite, dn_ix, dn_sl, dn_blt, dn_isi, dn_join, dn_get2, dn_call, dn_rng, dn_lc, ds_pass, ds_brk, ds_cnt, ds_drop, ds_ret, ds_retN, ds_retV, ds_set, ds_unp, ds_ite, ds_fore, ds_whl, ds_app, ds_ext, ds_clr, ds_frz, ds_lend, ds_callO, ds_raise, ds_tryM, denL, List.zip_cons_cons, List.zip_nil_left, List.zip_nil_right, sTry_k, tK_nx, tK_rt, tK_bk, tK_ct, tK_ex, catch_nil, catch_cons, caK_t, caK_f, noX_nx, noX_rt, noX_bk, noX_ct, oSeq_k, oK_nx, oK_rt, oK_bk, oK_ct, oK_ex, oK_st, oB_ok, oB_exc, Res.bind_ok, Res.bind_exc, Res.bind_stuck, sSet, sIf_k, oIf_t, oIf_f, sRet, sRetV, sRetN, sDrop, sFrz, sApp_k, appK_v, appK_o, sExt_k, extK_v, extK_o, sClr, onL, sLend, sCallO, onO, oBs_k, callO_k, cK_s, bK_nx, bK_rt, backO, argO, Option.map_some, sUnp_k, unpK_v, setAll, vals, sFor_k, forK_ok, whK_t, whK_f, whN_nx, whN_ct, whN_bk, whN_rt, whN_ex, eVar, eArgs_nil, eArgs_cons, eTup_k, eLst_k, tupK_s, lstK_s, frozs_nil, frozs_cons, froK_s, froz_v, froz_o, eAnd_k, eOr_k, eNot_k, eIte_k, andK_t, andK_f, orK_t, orK_f, iteK_t, iteK_f, notK_b, eNeg, neg_i, eBin, bin_add, bin_sub, bin_mul, bin_div, bin_mod, bin_pow, add_i, add_s, add_oo, add_ov, add_vo, add_vv, sub_i, mul_r, mul_l, mul_s, mul_o, div_p, mod_p, pow_p, eCmp, c_eq, c_ne, c_lt, c_le, c_gt, c_ge, c_is, c_in, c_nin, eq_ii, eq_ss, eq_bb, ne_ii, ne_ss, ne_bb, lt_ii, le_ii, gt_ii, ge_ii, in_ss, nin_ss, eIx, optR_some, ix_lv, ix_lo, ix_lb, ix_tv, ix_tb, ix_s, eSl_k, sl_s, sl_lv, sl_lo, sl_lb, sl_tv, part_none, part_some, pK_i, eBlt_k, len_s, len_lv, len_lo, len_lb, len_tv, len_tb, str_p, int_i, int_b, list_lv, list_lo, list_lb, list_tv, tuple_lv, tuple_lo, tuple_lb, tuple_tv, all_o, any_o, sum_o, min_i, max_i, eIsi_k, isi_bb, isi_ii, isi_bi, isi_ss, isi_st, isi_tt, isi_ts, isi_it, isi_ti, isi_si, isi_ll, isi_lb, isi_lo, eCall_k, arg_v, arg_o, arg_b, eJoin_k, joinX_s, join_o, joinK_s, eGlo, setR_f, setR_fo, setR_t, eSeqX_k, eSeq_k, it_lv, it_lo, it_tv, it_s, id_lv, id_lo, id_lb, id_tv, id_tb, id_s, eRngV_k, rng_1, rng_2, eLc_k, lcK_ok, ofD, Bt.fn, Ty.T, List.map_cons, List.map_nil, List.head?_cons, List.head?_nil, List.length_cons, List.length_nil, List.cons_append, List.nil_append, List.replicate_succ, List.replicate_zero, List.getElem?_cons_zero, List.getElem?_cons_succ, List.set_cons_zero, List.set_cons_succ, Nat.reduceSub, Nat.reduceAdd, Nat.zero_add, if_true, Bool.false_eq_true, if_false, Bool.and_true, Bool.true_and, Nat.zero_le, decide_true, Bool.or_true, Bool.true_or, decide_false, Int.reduceLT, Int.reduceLE, Int.reduceMul, Int.reduceAdd, Int.reduceSub, Int.reduceNeg, Int.reduceToNat, Int.reduceMod, Int.reduceDiv, Nat.reduceLeDiff, Nat.reduceLT, Bool.not_true, Bool.not_false, Bool.and_self, beq_self_eq_true, Int.reducePow, Nat.reducePow, Int.reduceBEq, d_sign, hc, hl, hl2]
  exact ⟨c, rfl⟩
end Mp

namespace Mp
open PySem L2

/-! ### kinds -/
inductive Kd where
  | num (i : Int) | nam (q t : Str) | pr (a b : Kd)
  deriving Inhabited
def Kd.d : Kd → D
  | .num i => .tup [.str "num", .int i]
  | .nam q t => .tup [.str "name", .str q, .str t]
  | .pr a b => .tup [.str "pair", a.d, b.d]
def Kd.lv : Kd → Nat
  | .num _ => 1
  | .nam _ _ => 1
  | .pr a b => a.lv + b.lv
def Kd.dp : Kd → Nat
  | .num _ => 1
  | .nam _ _ => 1
  | .pr a b => max a.dp b.dp + 1
/-- nums, pairs, names -/
def Kd.wd : Kd → Nat
  | .num _ => 1
  | .nam _ _ => 1
  | .pr a b => 1 + a.wd + b.wd
theorem Kd.lv_pos : ∀ k : Kd, 1 ≤ k.lv
  | .num _ => Nat.le_refl _
  | .nam _ _ => Nat.le_refl _
  | .pr a b => by have := Kd.lv_pos a; simp only [Kd.lv]; omega
theorem Kd.dp_le : ∀ k : Kd, k.dp ≤ k.lv
  | .num _ => Nat.le_refl _
  | .nam _ _ => Nat.le_refl _
  | .pr a b => by
    have := Kd.dp_le a
    have := Kd.dp_le b
    have := Kd.lv_pos a
    have := Kd.lv_pos b
    simp only [Kd.lv, Kd.dp]
    omega
theorem Kd.dp_pos : ∀ k : Kd, 1 ≤ k.dp
  | .num _ => Nat.le_refl _
  | .nam _ _ => Nat.le_refl _
  | .pr a b => by simp only [Kd.dp]; omega
theorem Kd.wd_lv : ∀ k : Kd, k.wd + 1 = 2 * k.lv
  | .num _ => rfl
  | .nam _ _ => rfl
  | .pr a b => by
    have := Kd.wd_lv a
    have := Kd.wd_lv b
    simp only [Kd.lv, Kd.wd]
    omega
/-- the leaves, from left to right -/
def Kd.ls : Kd → List Kd
  | .pr a b => a.ls ++ b.ls
  | k => [k]
theorem atI0 {α : Type} (a : α) (l : List α) : atI (a :: l) 0 = some a := atI_nat (j := 0) rfl
theorem atI1 {α : Type} (a b : α) (l : List α) : atI (a :: b :: l) 1 = some b := atI_nat (j := 1) rfl
theorem atI2 {α : Type} (a b c : α) (l : List α) : atI (a :: b :: c :: l) 2 = some c := atI_nat (j := 2) rfl
theorem atI3 {α : Type} (a b c d : α) (l : List α) : atI (a :: b :: c :: d :: l) 3 = some d := atI_nat (j := 3) rfl
theorem atI4 {α : Type} (a b c d e : α) (l : List α) : atI (a :: b :: c :: d :: e :: l) 4 = some e := atI_nat (j := 4) rfl
theorem w_np : (("num" : Str) == ("pair" : Str)) = false := by decide +kernel
theorem w_ap : (("name" : Str) == ("pair" : Str)) = false := by decide +kernel
theorem w_nn : (("num" : Str) == ("name" : Str)) = false := by decide +kernel
theorem w_an : (("name" : Str) == ("num" : Str)) = false := by decide +kernel
theorem w_pn : (("pair" : Str) == ("num" : Str)) = false := by decide +kernel
theorem w_pa : (("pair" : Str) == ("name" : Str)) = false := by decide +kernel
def d_words_in (i : Nat) : Df := ⟨1, ["kind"],
  [.ite (.cmp .Eq (.ix (.var 0) (.cst (.int 0))) (.cst (.str "pair")))
    [.ret (.bin .Add (.bin .Add (.cst (.int 1)) (.call i [.ix (.var 0) (.cst (.int 1))])) (.call i [.ix (.var 0) (.cst (.int 2))]))]
    [],
  .ret (.cst (.int 1))], none⟩
section
variable {T : List Df} {M : Mn} {i j : Nat}
theorem words_eq (hT : T[i]? = some (d_words_in i)) : ∀ (k : Kd) (n : Nat), k.dp ≤ n → rn T M n i [.val k.d] = .ok (.val (.int k.wd))
  | k, 0, h => by have := k.dp_pos; omega
  | .num x, n + 1, _ => by
    rw [rn_at hT]
    simp only [dn_get1, dn_dct0, dn_din, ds_dput, dk_s, dk_i, dk_t0, dk_t1, dk_t2, dk_t3, sDput_k, dputA_d, dputC_k, eDin_k, din_v, din_o, din_b, ain_s, anin_s, dinC_t, dinC_f, ix_dv, ix_do, ix_db, ixC_k, getO_some, getO_none, getC_k, eGet1_k, eGet2_k, get1_v, get1_o, get1_b, get2_v, get2_o, get2_b, runD, runO, st0, run_rn, runO_rn, fin_nx, fin_rt, fin_ex, denB_nil, denB_cons, dens, dn_var, dn_cst, dn_glo, dn_tup, dn_lst, dn_and, dn_or, dn_not, dn_neg, dn_bin, dn_cmp, dn_chn, dn_ite, dn_ix, dn_sl, dn_blt, dn_isi, dn_join, dn_get2, dn_call, dn_rng, dn_lc, ds_pass, ds_brk, ds_cnt, ds_drop, ds_ret, ds_retN, ds_retV, ds_set, ds_unp, ds_ite, ds_fore, ds_whl, ds_app, ds_ext, ds_clr, ds_frz, ds_lend, ds_callO, ds_raise, ds_tryM, denL, List.zip_cons_cons, List.zip_nil_left, List.zip_nil_right, sTry_k, tK_nx, tK_rt, tK_bk, tK_ct, tK_ex, catch_nil, catch_cons, caK_t, caK_f, noX_nx, noX_rt, noX_bk, noX_ct, oSeq_k, oK_nx, oK_rt, oK_bk, oK_ct, oK_ex, oK_st, oB_ok, oB_exc, Res.bind_ok, Res.bind_exc, Res.bind_stuck, sSet, sIf_k, oIf_t, oIf_f, sRet, sRetV, sRetN, sDrop, sFrz, sApp_k, appK_v, appK_o, sExt_k, extK_v, extK_o, sClr, onL, sLend, sCallO, onO, oBs_k, callO_k, cK_s, bK_nx, bK_rt, backO, argO, Option.map_some, sUnp_k, unpK_v, setAll, vals, sFor_k, forK_ok, whK_t, whK_f, whN_nx, whN_ct, whN_bk, whN_rt, whN_ex, eVar, eArgs_nil, eArgs_cons, eTup_k, eLst_k, tupK_s, lstK_s, frozs_nil, frozs_cons, froK_s, froz_v, froz_o, eAnd_k, eOr_k, eNot_k, eIte_k, andK_t, andK_f, orK_t, orK_f, iteK_t, iteK_f, notK_b, eNeg, neg_i, eBin, bin_add, bin_sub, bin_mul, bin_div, bin_mod, bin_pow, add_i, add_s, add_oo, add_ov, add_vo, add_vv, sub_i, mul_r, mul_l, mul_s, mul_o, div_p, mod_p, pow_p, eCmp, c_eq, c_ne, c_lt, c_le, c_gt, c_ge, c_is, c_in, c_nin, eq_ii, eq_ss, eq_bb, ne_ii, ne_ss, ne_bb, lt_ii, le_ii, gt_ii, ge_ii, in_ss, nin_ss, eIx, optR_some, ix_lv, ix_lo, ix_lb, ix_tv, ix_tb, ix_s, eSl_k, sl_s, sl_lv, sl_lo, sl_lb, sl_tv, part_none, part_some, pK_i, eBlt_k, len_s, len_lv, len_lo, len_lb, len_tv, len_tb, str_p, int_i, int_b, list_lv, list_lo, list_lb, list_tv, tuple_lv, tuple_lo, tuple_lb, tuple_tv, all_o, any_o, sum_o, min_i, max_i, eIsi_k, isi_bb, isi_ii, isi_bi, isi_ss, isi_st, isi_tt, isi_ts, isi_it, isi_ti, isi_si, isi_ll, isi_lb, isi_lo, eCall_k, arg_v, arg_o, arg_b, eJoin_k, joinX_s, join_o, joinK_s, eGlo, setR_f, setR_fo, setR_t, eSeqX_k, eSeq_k, it_lv, it_lo, it_tv, it_s, id_lv, id_lo, id_lb, id_tv, id_tb, id_s, eRngV_k, rng_1, rng_2, eLc_k, lcK_ok, ofD, Bt.fn, Ty.T, List.map_cons, List.map_nil, List.head?_cons, List.head?_nil, List.length_cons, List.length_nil, List.cons_append, List.nil_append, List.replicate_succ, List.replicate_zero, List.getElem?_cons_zero, List.getElem?_cons_succ, List.set_cons_zero, List.set_cons_succ, Nat.reduceSub, Nat.reduceAdd, Nat.zero_add, if_true, Bool.false_eq_true, if_false, Bool.and_true, Bool.true_and, Nat.zero_le, decide_true, Bool.or_true, Bool.true_or, decide_false, Int.reduceLT, Int.reduceLE, Int.reduceMul, Int.reduceAdd, Int.reduceSub, Int.reduceNeg, Int.reduceToNat, Int.reduceMod, Int.reduceDiv, Nat.reduceLeDiff, Nat.reduceLT, Bool.not_true, Bool.not_false, Bool.and_self, beq_self_eq_true, Int.reducePow, Nat.reducePow, Int.reduceBEq, d_words_in, Kd.d, atI0, w_np, Kd.wd]
    rfl
  | .nam q t, n + 1, _ => by
    rw [rn_at hT]
    simp only [dn_get1, dn_dct0, dn_din, ds_dput, dk_s, dk_i, dk_t0, dk_t1, dk_t2, dk_t3, sDput_k, dputA_d, dputC_k, eDin_k, din_v, din_o, din_b, ain_s, anin_s, dinC_t, dinC_f, ix_dv, ix_do, ix_db, ixC_k, getO_some, getO_none, getC_k, eGet1_k, eGet2_k, get1_v, get1_o, get1_b, get2_v, get2_o, get2_b, runD, runO, st0, run_rn, runO_rn, fin_nx, fin_rt, fin_ex, denB_nil, denB_cons, dens, dn_var, dn_cst, dn_glo, dn_tup, dn_lst, dn_and, dn_or, dn_not, dn_neg, dn_bin, dn_cmp, dn_chn, dn_ite, dn_ix, dn_sl, dn_blt, dn_isi, dn_join, dn_get2, dn_call, dn_rng, dn_lc, ds_pass, ds_brk, ds_cnt, ds_drop, ds_ret, ds_retN, ds_retV, ds_set, ds_unp, ds_ite, ds_fore, ds_whl, ds_app, ds_ext, ds_clr, ds_frz, ds_lend, ds_callO, ds_raise, ds_tryM, denL, List.zip_cons_cons, List.zip_nil_left, List.zip_nil_right, sTry_k, tK_nx, tK_rt, tK_bk, tK_ct, tK_ex, catch_nil, catch_cons, caK_t, caK_f, noX_nx, noX_rt, noX_bk, noX_ct, oSeq_k, oK_nx, oK_rt, oK_bk, oK_ct, oK_ex, oK_st, oB_ok, oB_exc, Res.bind_ok, Res.bind_exc, Res.bind_stuck, sSet, sIf_k, oIf_t, oIf_f, sRet, sRetV, sRetN, sDrop, sFrz, sApp_k, appK_v, appK_o, sExt_k, extK_v, extK_o, sClr, onL, sLend, sCallO, onO, oBs_k, callO_k, cK_s, bK_nx, bK_rt, backO, argO, Option.map_some, sUnp_k, unpK_v, setAll, vals, sFor_k, forK_ok, whK_t, whK_f, whN_nx, whN_ct, whN_bk, whN_rt, whN_ex, eVar, eArgs_nil, eArgs_cons, eTup_k, eLst_k, tupK_s, lstK_s, frozs_nil, frozs_cons, froK_s, froz_v, froz_o, eAnd_k, eOr_k, eNot_k, eIte_k, andK_t, andK_f, orK_t, orK_f, iteK_t, iteK_f, notK_b, eNeg, neg_i, eBin, bin_add, bin_sub, bin_mul, bin_div, bin_mod, bin_pow, add_i, add_s, add_oo, add_ov, add_vo, add_vv, sub_i, mul_r, mul_l, mul_s, mul_o, div_p, mod_p, pow_p, eCmp, c_eq, c_ne, c_lt, c_le, c_gt, c_ge, c_is, c_in, c_nin, eq_ii, eq_ss, eq_bb, ne_ii, ne_ss, ne_bb, lt_ii, le_ii, gt_ii, ge_ii, in_ss, nin_ss, eIx, optR_some, ix_lv, ix_lo, ix_lb, ix_tv, ix_tb, ix_s, eSl_k, sl_s, sl_lv, sl_lo, sl_lb, sl_tv, part_none, part_some, pK_i, eBlt_k, len_s, len_lv, len_lo, len_lb, len_tv, len_tb, str_p, int_i, int_b, list_lv, list_lo, list_lb, list_tv, tuple_lv, tuple_lo, tuple_lb, tuple_tv, all_o, any_o, sum_o, min_i, max_i, eIsi_k, isi_bb, isi_ii, isi_bi, isi_ss, isi_st, isi_tt, isi_ts, isi_it, isi_ti, isi_si, isi_ll, isi_lb, isi_lo, eCall_k, arg_v, arg_o, arg_b, eJoin_k, joinX_s, join_o, joinK_s, eGlo, setR_f, setR_fo, setR_t, eSeqX_k, eSeq_k, it_lv, it_lo, it_tv, it_s, id_lv, id_lo, id_lb, id_tv, id_tb, id_s, eRngV_k, rng_1, rng_2, eLc_k, lcK_ok, ofD, Bt.fn, Ty.T, List.map_cons, List.map_nil, List.head?_cons, List.head?_nil, List.length_cons, List.length_nil, List.cons_append, List.nil_append, List.replicate_succ, List.replicate_zero, List.getElem?_cons_zero, List.getElem?_cons_succ, List.set_cons_zero, List.set_cons_succ, Nat.reduceSub, Nat.reduceAdd, Nat.zero_add, if_true, Bool.false_eq_true, if_false, Bool.and_true, Bool.true_and, Nat.zero_le, decide_true, Bool.or_true, Bool.true_or, decide_false, Int.reduceLT, Int.reduceLE, Int.reduceMul, Int.reduceAdd, Int.reduceSub, Int.reduceNeg, Int.reduceToNat, Int.reduceMod, Int.reduceDiv, Nat.reduceLeDiff, Nat.reduceLT, Bool.not_true, Bool.not_false, Bool.and_self, beq_self_eq_true, Int.reducePow, Nat.reducePow, Int.reduceBEq, d_words_in, Kd.d, atI0, w_ap, Kd.wd]
    rfl
  | .pr a b, n + 1, h => by
    simp only [Kd.dp] at h
    have ha := words_eq hT a n (by omega)
    have hb := words_eq hT b n (by omega)
    rw [rn_at hT]
    simp only [dn_get1, dn_dct0, dn_din, ds_dput, dk_s, dk_i, dk_t0, dk_t1, dk_t2, dk_t3, sDput_k, dputA_d, dputC_k, eDin_k, din_v, din_o, din_b, ain_s, anin_s, dinC_t, dinC_f, ix_dv, ix_do, ix_db, ixC_k, getO_some, getO_none, getC_k, eGet1_k, eGet2_k, get1_v, get1_o, get1_b, get2_v, get2_o, get2_b, runD, runO, st0, run_rn, runO_rn, fin_nx, fin_rt, fin_ex, denB_nil, denB_cons, dens, dn_var, dn_cst, dn_glo, dn_tup, dn_lst, dn_and, dn_or, dn_not, dn_neg, dn_bin, dn_cmp, dn_chn, dn_ite, dn_ix, dn_sl, dn_blt, dn_isi, dn_join, dn_get2, dn_call, dn_rng, dn_lc, ds_pass, ds_brk, ds_cnt, ds_drop, ds_ret, ds_retN, ds_retV, ds_set, ds_unp, ds_ite, ds_fore, ds_whl, ds_app, ds_ext, ds_clr, ds_frz, ds_lend, ds_callO, ds_raise, ds_tryM, denL, List.zip_cons_cons, List.zip_nil_left, List.zip_nil_right, sTry_k, tK_nx, tK_rt, tK_bk, tK_ct, tK_ex, catch_nil, catch_cons, caK_t, caK_f, noX_nx, noX_rt, noX_bk, noX_ct, oSeq_k, oK_nx, oK_rt, oK_bk, oK_ct, oK_ex, oK_st, oB_ok, oB_exc, Res.bind_ok, Res.bind_exc, Res.bind_stuck, sSet, sIf_k, oIf_t, oIf_f, sRet, sRetV, sRetN, sDrop, sFrz, sApp_k, appK_v, appK_o, sExt_k, extK_v, extK_o, sClr, onL, sLend, sCallO, onO, oBs_k, callO_k, cK_s, bK_nx, bK_rt, backO, argO, Option.map_some, sUnp_k, unpK_v, setAll, vals, sFor_k, forK_ok, whK_t, whK_f, whN_nx, whN_ct, whN_bk, whN_rt, whN_ex, eVar, eArgs_nil, eArgs_cons, eTup_k, eLst_k, tupK_s, lstK_s, frozs_nil, frozs_cons, froK_s, froz_v, froz_o, eAnd_k, eOr_k, eNot_k, eIte_k, andK_t, andK_f, orK_t, orK_f, iteK_t, iteK_f, notK_b, eNeg, neg_i, eBin, bin_add, bin_sub, bin_mul, bin_div, bin_mod, bin_pow, add_i, add_s, add_oo, add_ov, add_vo, add_vv, sub_i, mul_r, mul_l, mul_s, mul_o, div_p, mod_p, pow_p, eCmp, c_eq, c_ne, c_lt, c_le, c_gt, c_ge, c_is, c_in, c_nin, eq_ii, eq_ss, eq_bb, ne_ii, ne_ss, ne_bb, lt_ii, le_ii, gt_ii, ge_ii, in_ss, nin_ss, eIx, optR_some, ix_lv, ix_lo, ix_lb, ix_tv, ix_tb, ix_s, eSl_k, sl_s, sl_lv, sl_lo, sl_lb, sl_tv, part_none, part_some, pK_i, eBlt_k, len_s, len_lv, len_lo, len_lb, len_tv, len_tb, str_p, int_i, int_b, list_lv, list_lo, list_lb, list_tv, tuple_lv, tuple_lo, tuple_lb, tuple_tv, all_o, any_o, sum_o, min_i, max_i, eIsi_k, isi_bb, isi_ii, isi_bi, isi_ss, isi_st, isi_tt, isi_ts, isi_it, isi_ti, isi_si, isi_ll, isi_lb, isi_lo, eCall_k, arg_v, arg_o, arg_b, eJoin_k, joinX_s, join_o, joinK_s, eGlo, setR_f, setR_fo, setR_t, eSeqX_k, eSeq_k, it_lv, it_lo, it_tv, it_s, id_lv, id_lo, id_lb, id_tv, id_tb, id_s, eRngV_k, rng_1, rng_2, eLc_k, lcK_ok, ofD, Bt.fn, Ty.T, List.map_cons, List.map_nil, List.head?_cons, List.head?_nil, List.length_cons, List.length_nil, List.cons_append, List.nil_append, List.replicate_succ, List.replicate_zero, List.getElem?_cons_zero, List.getElem?_cons_succ, List.set_cons_zero, List.set_cons_succ, Nat.reduceSub, Nat.reduceAdd, Nat.zero_add, if_true, Bool.false_eq_true, if_false, Bool.and_true, Bool.true_and, Nat.zero_le, decide_true, Bool.or_true, Bool.true_or, decide_false, Int.reduceLT, Int.reduceLE, Int.reduceMul, Int.reduceAdd, Int.reduceSub, Int.reduceNeg, Int.reduceToNat, Int.reduceMod, Int.reduceDiv, Nat.reduceLeDiff, Nat.reduceLT, Bool.not_true, Bool.not_false, Bool.and_self, beq_self_eq_true, Int.reducePow, Nat.reducePow, Int.reduceBEq, d_words_in, Kd.d, atI0, atI1, atI2, ha, hb, Kd.wd]
    rw [show ((1 + a.wd + b.wd : Nat) : Int) = 1 + (a.wd : Int) + (b.wd : Int) by omega]
end
/-- names -/
abbrev Nm := Str × Str
def Nm.d (p : Nm) : D := .tup [.str p.1, .str p.2]
def note1 (p : Nm) (acc : List Nm) : List Nm := if acc.contains p then acc else acc ++ [p]
def Kd.note : Kd → List Nm → List Nm
  | .num _, acc => acc
  | .nam q t, acc => note1 (q, t) acc
  | .pr a b, acc => b.note (a.note acc)
theorem note1_len (p : Nm) (acc : List Nm) : (note1 p acc).length ≤ acc.length + 1 := by
  unfold note1
  split <;> simp
theorem Kd.note_len : ∀ (k : Kd) (acc : List Nm), (k.note acc).length ≤ acc.length + k.lv
  | .num _, acc => by simp [Kd.note, Kd.lv]
  | .nam q t, acc => note1_len _ _
  | .pr a b, acc => by
    have h1 := a.note_len acc
    have h2 := b.note_len (a.note acc)
    simp only [Kd.note, Kd.lv]
    omega
theorem nm_deq (p r : Nm) : deq p.d r.d = (p == r) := by
  obtain ⟨a, b⟩ := p
  obtain ⟨c, d⟩ := r
  simp only [Nm.d, deq, deqs, Bool.and_true]
  rfl
theorem inD_nm (p : Nm) (acc : List Nm) : inD p.d (acc.map Nm.d) = acc.contains p := by
  unfold inD
  rw [List.any_map, List.contains_eq_any_beq]
  induction acc with
  | nil => rfl
  | cons a l ih =>
    simp only [List.any_cons, Function.comp, nm_deq] at ih ⊢
    rw [ih, show (a == p) = (p == a) from BEq.comm]
theorem nms_no : ∀ acc : List Nm, noDs (acc.map Nm.d) = true ∧ deps (acc.map Nm.d) ≤ 1
  | [] => ⟨rfl, Nat.zero_le _⟩
  | p :: l => by
    obtain ⟨h1, h2⟩ := nms_no l
    simp only [List.map_cons, noDs, deps, Nm.d, noD, dep, h1, Bool.and_true, Bool.true_and, true_and]
    omega
theorem eqOk_nl (p : Nm) (acc : List Nm) : eqOk p.d (.lst (acc.map Nm.d)) = true := by
  obtain ⟨h1, h2⟩ := nms_no acc
  simp [eqOk, Nm.d, noD, noDs, dep, deps, h1]
theorem nin_nb (p : Nm) (acc : List Nm) : cpNin (.val p.d) (.bor (.lst (acc.map Nm.d))) = .ok (.val (.bl !acc.contains p)) := by
  simp only [cpNin, opIn, R.d]
  rw [if_pos (eqOk_nl p acc), inD_nm]
  rfl
def d_note_names (i : Nat) : Df := ⟨2, ["kind", "found"],
  [.ite (.cmp .Eq (.ix (.var 0) (.cst (.int 0))) (.cst (.str "pair")))
    [.callO none i [.ix (.var 0) (.cst (.int 1)), .var 1] 1 1,
    .callO none i [.ix (.var 0) (.cst (.int 2)), .var 1] 1 1]
    [.ite (.and (.cmp .Eq (.ix (.var 0) (.cst (.int 0))) (.cst (.str "name"))) (.cmp .NotIn (.tup [.ix (.var 0) (.cst (.int 1)), .ix (.var 0) (.cst (.int 2))]) (.var 1)))
      [.app 1 (.tup [.ix (.var 0) (.cst (.int 1)), .ix (.var 0) (.cst (.int 2))])]
      []]], some 1⟩
def d_names_in (i : Nat) : Df := ⟨1, ["kind", "found"],
  [.set true 1 (.lst []),
  .callO none i [.var 0, .var 1] 1 1,
  .retV 1], none⟩
section
variable {T : List Df} {M : Mn} {i j : Nat}
theorem note_eq (hT : T[i]? = some (d_note_names i)) : ∀ (k : Kd) (n : Nat) (acc : List Nm), k.dp ≤ n → acc.length + k.lv ≤ 100000 → rnO T M n i [.val k.d, .own (.lst (acc.map Nm.d))] = .nx [some (.val k.d), some (.own (.lst ((k.note acc).map Nm.d)))]
  | k, 0, _, h, _ => by have := k.dp_pos; omega
  | .num x, n + 1, acc, _, _ => by
    rw [rnO_at hT]
    simp only [dn_get1, dn_dct0, dn_din, ds_dput, dk_s, dk_i, dk_t0, dk_t1, dk_t2, dk_t3, sDput_k, dputA_d, dputC_k, eDin_k, din_v, din_o, din_b, ain_s, anin_s, dinC_t, dinC_f, ix_dv, ix_do, ix_db, ixC_k, getO_some, getO_none, getC_k, eGet1_k, eGet2_k, get1_v, get1_o, get1_b, get2_v, get2_o, get2_b, runD, runO, st0, run_rn, runO_rn, fin_nx, fin_rt, fin_ex, denB_nil, denB_cons, dens, dn_var, dn_cst, dn_glo, dn_tup, dn_lst, dn_and, dn_or, dn_not, dn_neg, dn_bin, dn_cmp, dn_chn, dn_ite, dn_ix, dn_sl, dn_blt, dn_isi, dn_join, dn_get2, dn_call, dn_rng, dn_lc, ds_pass, ds_brk, ds_cnt, ds_drop, ds_ret, ds_retN, ds_retV, ds_set, ds_unp, ds_ite, ds_fore, ds_whl, ds_app, ds_ext, ds_clr, ds_frz, ds_lend, ds_callO, ds_raise, ds_tryM, denL, List.zip_cons_cons, List.zip_nil_left, List.zip_nil_right, sTry_k, tK_nx, tK_rt, tK_bk, tK_ct, tK_ex, catch_nil, catch_cons, caK_t, caK_f, noX_nx, noX_rt, noX_bk, noX_ct, oSeq_k, oK_nx, oK_rt, oK_bk, oK_ct, oK_ex, oK_st, oB_ok, oB_exc, Res.bind_ok, Res.bind_exc, Res.bind_stuck, sSet, sIf_k, oIf_t, oIf_f, sRet, sRetV, sRetN, sDrop, sFrz, sApp_k, appK_v, appK_o, sExt_k, extK_v, extK_o, sClr, onL, sLend, sCallO, onO, oBs_k, callO_k, cK_s, bK_nx, bK_rt, backO, argO, Option.map_some, sUnp_k, unpK_v, setAll, vals, sFor_k, forK_ok, whK_t, whK_f, whN_nx, whN_ct, whN_bk, whN_rt, whN_ex, eVar, eArgs_nil, eArgs_cons, eTup_k, eLst_k, tupK_s, lstK_s, frozs_nil, frozs_cons, froK_s, froz_v, froz_o, eAnd_k, eOr_k, eNot_k, eIte_k, andK_t, andK_f, orK_t, orK_f, iteK_t, iteK_f, notK_b, eNeg, neg_i, eBin, bin_add, bin_sub, bin_mul, bin_div, bin_mod, bin_pow, add_i, add_s, add_oo, add_ov, add_vo, add_vv, sub_i, mul_r, mul_l, mul_s, mul_o, div_p, mod_p, pow_p, eCmp, c_eq, c_ne, c_lt, c_le, c_gt, c_ge, c_is, c_in, c_nin, eq_ii, eq_ss, eq_bb, ne_ii, ne_ss, ne_bb, lt_ii, le_ii, gt_ii, ge_ii, in_ss, nin_ss, eIx, optR_some, ix_lv, ix_lo, ix_lb, ix_tv, ix_tb, ix_s, eSl_k, sl_s, sl_lv, sl_lo, sl_lb, sl_tv, part_none, part_some, pK_i, eBlt_k, len_s, len_lv, len_lo, len_lb, len_tv, len_tb, str_p, int_i, int_b, list_lv, list_lo, list_lb, list_tv, tuple_lv, tuple_lo, tuple_lb, tuple_tv, all_o, any_o, sum_o, min_i, max_i, eIsi_k, isi_bb, isi_ii, isi_bi, isi_ss, isi_st, isi_tt, isi_ts, isi_it, isi_ti, isi_si, isi_ll, isi_lb, isi_lo, eCall_k, arg_v, arg_o, arg_b, eJoin_k, joinX_s, join_o, joinK_s, eGlo, setR_f, setR_fo, setR_t, eSeqX_k, eSeq_k, it_lv, it_lo, it_tv, it_s, id_lv, id_lo, id_lb, id_tv, id_tb, id_s, eRngV_k, rng_1, rng_2, eLc_k, lcK_ok, ofD, Bt.fn, Ty.T, List.map_cons, List.map_nil, List.head?_cons, List.head?_nil, List.length_cons, List.length_nil, List.cons_append, List.nil_append, List.replicate_succ, List.replicate_zero, List.getElem?_cons_zero, List.getElem?_cons_succ, List.set_cons_zero, List.set_cons_succ, Nat.reduceSub, Nat.reduceAdd, Nat.zero_add, if_true, Bool.false_eq_true, if_false, Bool.and_true, Bool.true_and, Nat.zero_le, decide_true, Bool.or_true, Bool.true_or, decide_false, Int.reduceLT, Int.reduceLE, Int.reduceMul, Int.reduceAdd, Int.reduceSub, Int.reduceNeg, Int.reduceToNat, Int.reduceMod, Int.reduceDiv, Nat.reduceLeDiff, Nat.reduceLT, Bool.not_true, Bool.not_false, Bool.and_self, beq_self_eq_true, Int.reducePow, Nat.reducePow, Int.reduceBEq, d_note_names, Kd.d, atI0, w_np, w_nn, Kd.note]
  | .nam q t, n + 1, acc, _, hl => by
    have e := nin_nb (q, t) acc
    have hz : acc.length < LIM := Nat.lt_of_lt_of_le (show acc.length < 100001 by simp only [Kd.lv] at hl; omega) (by decide)
    have z2 : (2 : Nat) ≤ LIM := by decide
    simp only [Nm.d] at e
    rw [rnO_at hT]
    cases hc : acc.contains (q, t) <;> rw [hc] at e <;> simp only [dn_get1, dn_dct0, dn_din, ds_dput, dk_s, dk_i, dk_t0, dk_t1, dk_t2, dk_t3, sDput_k, dputA_d, dputC_k, eDin_k, din_v, din_o, din_b, ain_s, anin_s, dinC_t, dinC_f, ix_dv, ix_do, ix_db, ixC_k, getO_some, getO_none, getC_k, eGet1_k, eGet2_k, get1_v, get1_o, get1_b, get2_v, get2_o, get2_b, runD, runO, st0, run_rn, runO_rn, fin_nx, fin_rt, fin_ex, denB_nil, denB_cons, dens, dn_var, dn_cst, dn_glo, dn_tup, dn_lst, dn_and, dn_or, dn_not, dn_neg, dn_bin, dn_cmp, dn_chn, dn_ite, dn_ix, dn_sl, dn_blt, dn_isi, dn_join, dn_get2, dn_call, dn_rng, dn_lc, ds_pass, ds_brk, ds_cnt, ds_drop, ds_ret, ds_retN, ds_retV, ds_set, ds_unp, ds_ite, ds_fore, ds_whl, ds_app, ds_ext, ds_clr, ds_frz, ds_lend, ds_callO, ds_raise, ds_tryM, denL, List.zip_cons_cons, List.zip_nil_left, List.zip_nil_right, sTry_k, tK_nx, tK_rt, tK_bk, tK_ct, tK_ex, catch_nil, catch_cons, caK_t, caK_f, noX_nx, noX_rt, noX_bk, noX_ct, oSeq_k, oK_nx, oK_rt, oK_bk, oK_ct, oK_ex, oK_st, oB_ok, oB_exc, Res.bind_ok, Res.bind_exc, Res.bind_stuck, sSet, sIf_k, oIf_t, oIf_f, sRet, sRetV, sRetN, sDrop, sFrz, sApp_k, appK_v, appK_o, sExt_k, extK_v, extK_o, sClr, onL, sLend, sCallO, onO, oBs_k, callO_k, cK_s, bK_nx, bK_rt, backO, argO, Option.map_some, sUnp_k, unpK_v, setAll, vals, sFor_k, forK_ok, whK_t, whK_f, whN_nx, whN_ct, whN_bk, whN_rt, whN_ex, eVar, eArgs_nil, eArgs_cons, eTup_k, eLst_k, tupK_s, lstK_s, frozs_nil, frozs_cons, froK_s, froz_v, froz_o, eAnd_k, eOr_k, eNot_k, eIte_k, andK_t, andK_f, orK_t, orK_f, iteK_t, iteK_f, notK_b, eNeg, neg_i, eBin, bin_add, bin_sub, bin_mul, bin_div, bin_mod, bin_pow, add_i, add_s, add_oo, add_ov, add_vo, add_vv, sub_i, mul_r, mul_l, mul_s, mul_o, div_p, mod_p, pow_p, eCmp, c_eq, c_ne, c_lt, c_le, c_gt, c_ge, c_is, c_in, c_nin, eq_ii, eq_ss, eq_bb, ne_ii, ne_ss, ne_bb, lt_ii, le_ii, gt_ii, ge_ii, in_ss, nin_ss, eIx, optR_some, ix_lv, ix_lo, ix_lb, ix_tv, ix_tb, ix_s, eSl_k, sl_s, sl_lv, sl_lo, sl_lb, sl_tv, part_none, part_some, pK_i, eBlt_k, len_s, len_lv, len_lo, len_lb, len_tv, len_tb, str_p, int_i, int_b, list_lv, list_lo, list_lb, list_tv, tuple_lv, tuple_lo, tuple_lb, tuple_tv, all_o, any_o, sum_o, min_i, max_i, eIsi_k, isi_bb, isi_ii, isi_bi, isi_ss, isi_st, isi_tt, isi_ts, isi_it, isi_ti, isi_si, isi_ll, isi_lb, isi_lo, eCall_k, arg_v, arg_o, arg_b, eJoin_k, joinX_s, join_o, joinK_s, eGlo, setR_f, setR_fo, setR_t, eSeqX_k, eSeq_k, it_lv, it_lo, it_tv, it_s, id_lv, id_lo, id_lb, id_tv, id_tb, id_s, eRngV_k, rng_1, rng_2, eLc_k, lcK_ok, ofD, Bt.fn, Ty.T, List.map_cons, List.map_nil, List.head?_cons, List.head?_nil, List.length_cons, List.length_nil, List.cons_append, List.nil_append, List.replicate_succ, List.replicate_zero, List.getElem?_cons_zero, List.getElem?_cons_succ, List.set_cons_zero, List.set_cons_succ, Nat.reduceSub, Nat.reduceAdd, Nat.zero_add, if_true, Bool.false_eq_true, if_false, Bool.and_true, Bool.true_and, Nat.zero_le, decide_true, Bool.or_true, Bool.true_or, decide_false, Int.reduceLT, Int.reduceLE, Int.reduceMul, Int.reduceAdd, Int.reduceSub, Int.reduceNeg, Int.reduceToNat, Int.reduceMod, Int.reduceDiv, Nat.reduceLeDiff, Nat.reduceLT, Bool.not_true, Bool.not_false, Bool.and_self, beq_self_eq_true, Int.reducePow, Nat.reducePow, Int.reduceBEq, d_note_names, Kd.d, atI0, atI1, atI2, w_ap, Kd.note, e, List.length_map, hz, z2, note1, hc]
    rw [List.map_append]
    rfl
  | .pr a b, n + 1, acc, h, hl => by
    simp only [Kd.dp] at h
    simp only [Kd.lv] at hl
    have h1 := a.note_len acc
    have ha := note_eq hT a n acc (by omega) (by omega)
    have hb := note_eq hT b n (a.note acc) (by omega) (by omega)
    rw [rnO_at hT]
    simp only [dn_get1, dn_dct0, dn_din, ds_dput, dk_s, dk_i, dk_t0, dk_t1, dk_t2, dk_t3, sDput_k, dputA_d, dputC_k, eDin_k, din_v, din_o, din_b, ain_s, anin_s, dinC_t, dinC_f, ix_dv, ix_do, ix_db, ixC_k, getO_some, getO_none, getC_k, eGet1_k, eGet2_k, get1_v, get1_o, get1_b, get2_v, get2_o, get2_b, runD, runO, st0, run_rn, runO_rn, fin_nx, fin_rt, fin_ex, denB_nil, denB_cons, dens, dn_var, dn_cst, dn_glo, dn_tup, dn_lst, dn_and, dn_or, dn_not, dn_neg, dn_bin, dn_cmp, dn_chn, dn_ite, dn_ix, dn_sl, dn_blt, dn_isi, dn_join, dn_get2, dn_call, dn_rng, dn_lc, ds_pass, ds_brk, ds_cnt, ds_drop, ds_ret, ds_retN, ds_retV, ds_set, ds_unp, ds_ite, ds_fore, ds_whl, ds_app, ds_ext, ds_clr, ds_frz, ds_lend, ds_callO, ds_raise, ds_tryM, denL, List.zip_cons_cons, List.zip_nil_left, List.zip_nil_right, sTry_k, tK_nx, tK_rt, tK_bk, tK_ct, tK_ex, catch_nil, catch_cons, caK_t, caK_f, noX_nx, noX_rt, noX_bk, noX_ct, oSeq_k, oK_nx, oK_rt, oK_bk, oK_ct, oK_ex, oK_st, oB_ok, oB_exc, Res.bind_ok, Res.bind_exc, Res.bind_stuck, sSet, sIf_k, oIf_t, oIf_f, sRet, sRetV, sRetN, sDrop, sFrz, sApp_k, appK_v, appK_o, sExt_k, extK_v, extK_o, sClr, onL, sLend, sCallO, onO, oBs_k, callO_k, cK_s, bK_nx, bK_rt, backO, argO, Option.map_some, sUnp_k, unpK_v, setAll, vals, sFor_k, forK_ok, whK_t, whK_f, whN_nx, whN_ct, whN_bk, whN_rt, whN_ex, eVar, eArgs_nil, eArgs_cons, eTup_k, eLst_k, tupK_s, lstK_s, frozs_nil, frozs_cons, froK_s, froz_v, froz_o, eAnd_k, eOr_k, eNot_k, eIte_k, andK_t, andK_f, orK_t, orK_f, iteK_t, iteK_f, notK_b, eNeg, neg_i, eBin, bin_add, bin_sub, bin_mul, bin_div, bin_mod, bin_pow, add_i, add_s, add_oo, add_ov, add_vo, add_vv, sub_i, mul_r, mul_l, mul_s, mul_o, div_p, mod_p, pow_p, eCmp, c_eq, c_ne, c_lt, c_le, c_gt, c_ge, c_is, c_in, c_nin, eq_ii, eq_ss, eq_bb, ne_ii, ne_ss, ne_bb, lt_ii, le_ii, gt_ii, ge_ii, in_ss, nin_ss, eIx, optR_some, ix_lv, ix_lo, ix_lb, ix_tv, ix_tb, ix_s, eSl_k, sl_s, sl_lv, sl_lo, sl_lb, sl_tv, part_none, part_some, pK_i, eBlt_k, len_s, len_lv, len_lo, len_lb, len_tv, len_tb, str_p, int_i, int_b, list_lv, list_lo, list_lb, list_tv, tuple_lv, tuple_lo, tuple_lb, tuple_tv, all_o, any_o, sum_o, min_i, max_i, eIsi_k, isi_bb, isi_ii, isi_bi, isi_ss, isi_st, isi_tt, isi_ts, isi_it, isi_ti, isi_si, isi_ll, isi_lb, isi_lo, eCall_k, arg_v, arg_o, arg_b, eJoin_k, joinX_s, join_o, joinK_s, eGlo, setR_f, setR_fo, setR_t, eSeqX_k, eSeq_k, it_lv, it_lo, it_tv, it_s, id_lv, id_lo, id_lb, id_tv, id_tb, id_s, eRngV_k, rng_1, rng_2, eLc_k, lcK_ok, ofD, Bt.fn, Ty.T, List.map_cons, List.map_nil, List.head?_cons, List.head?_nil, List.length_cons, List.length_nil, List.cons_append, List.nil_append, List.replicate_succ, List.replicate_zero, List.getElem?_cons_zero, List.getElem?_cons_succ, List.set_cons_zero, List.set_cons_succ, Nat.reduceSub, Nat.reduceAdd, Nat.zero_add, if_true, Bool.false_eq_true, if_false, Bool.and_true, Bool.true_and, Nat.zero_le, decide_true, Bool.or_true, Bool.true_or, decide_false, Int.reduceLT, Int.reduceLE, Int.reduceMul, Int.reduceAdd, Int.reduceSub, Int.reduceNeg, Int.reduceToNat, Int.reduceMod, Int.reduceDiv, Nat.reduceLeDiff, Nat.reduceLT, Bool.not_true, Bool.not_false, Bool.and_self, beq_self_eq_true, Int.reducePow, Nat.reducePow, Int.reduceBEq, d_note_names, Kd.d, atI0, atI1, atI2, ha, hb, Kd.note]
theorem names_eq (hT : T[i]? = some (d_note_names i)) (hT2 : T[j]? = some (d_names_in i)) (k : Kd) (n : Nat) (h : k.dp ≤ n) (hl : k.lv ≤ 100000) : rn T M (n + 1) j [.val k.d] = .ok (.own (.lst ((k.note []).map Nm.d))) := by
  have e := note_eq (M := M) hT k n [] h (by simpa using hl)
  simp only [List.map_nil] at e
  rw [rn_at hT2]
  have l1 : (1 : Nat) < 2 := by decide
  simp only [dn_get1, dn_dct0, dn_din, ds_dput, dk_s, dk_i, dk_t0, dk_t1, dk_t2, dk_t3, sDput_k, dputA_d, dputC_k, eDin_k, din_v, din_o, din_b, ain_s, anin_s, dinC_t, dinC_f, ix_dv, ix_do, ix_db, ixC_k, getO_some, getO_none, getC_k, eGet1_k, eGet2_k, get1_v, get1_o, get1_b, get2_v, get2_o, get2_b, runD, runO, st0, run_rn, runO_rn, fin_nx, fin_rt, fin_ex, denB_nil, denB_cons, dens, dn_var, dn_cst, dn_glo, dn_tup, dn_lst, dn_and, dn_or, dn_not, dn_neg, dn_bin, dn_cmp, dn_chn, dn_ite, dn_ix, dn_sl, dn_blt, dn_isi, dn_join, dn_get2, dn_call, dn_rng, dn_lc, ds_pass, ds_brk, ds_cnt, ds_drop, ds_ret, ds_retN, ds_retV, ds_set, ds_unp, ds_ite, ds_fore, ds_whl, ds_app, ds_ext, ds_clr, ds_frz, ds_lend, ds_callO, ds_raise, ds_tryM, denL, List.zip_cons_cons, List.zip_nil_left, List.zip_nil_right, sTry_k, tK_nx, tK_rt, tK_bk, tK_ct, tK_ex, catch_nil, catch_cons, caK_t, caK_f, noX_nx, noX_rt, noX_bk, noX_ct, oSeq_k, oK_nx, oK_rt, oK_bk, oK_ct, oK_ex, oK_st, oB_ok, oB_exc, Res.bind_ok, Res.bind_exc, Res.bind_stuck, sSet, sIf_k, oIf_t, oIf_f, sRet, sRetV, sRetN, sDrop, sFrz, sApp_k, appK_v, appK_o, sExt_k, extK_v, extK_o, sClr, onL, sLend, sCallO, onO, oBs_k, callO_k, cK_s, bK_nx, bK_rt, backO, argO, Option.map_some, sUnp_k, unpK_v, setAll, vals, sFor_k, forK_ok, whK_t, whK_f, whN_nx, whN_ct, whN_bk, whN_rt, whN_ex, eVar, eArgs_nil, eArgs_cons, eTup_k, eLst_k, tupK_s, lstK_s, frozs_nil, frozs_cons, froK_s, froz_v, froz_o, eAnd_k, eOr_k, eNot_k, eIte_k, andK_t, andK_f, orK_t, orK_f, iteK_t, iteK_f, notK_b, eNeg, neg_i, eBin, bin_add, bin_sub, bin_mul, bin_div, bin_mod, bin_pow, add_i, add_s, add_oo, add_ov, add_vo, add_vv, sub_i, mul_r, mul_l, mul_s, mul_o, div_p, mod_p, pow_p, eCmp, c_eq, c_ne, c_lt, c_le, c_gt, c_ge, c_is, c_in, c_nin, eq_ii, eq_ss, eq_bb, ne_ii, ne_ss, ne_bb, lt_ii, le_ii, gt_ii, ge_ii, in_ss, nin_ss, eIx, optR_some, ix_lv, ix_lo, ix_lb, ix_tv, ix_tb, ix_s, eSl_k, sl_s, sl_lv, sl_lo, sl_lb, sl_tv, part_none, part_some, pK_i, eBlt_k, len_s, len_lv, len_lo, len_lb, len_tv, len_tb, str_p, int_i, int_b, list_lv, list_lo, list_lb, list_tv, tuple_lv, tuple_lo, tuple_lb, tuple_tv, all_o, any_o, sum_o, min_i, max_i, eIsi_k, isi_bb, isi_ii, isi_bi, isi_ss, isi_st, isi_tt, isi_ts, isi_it, isi_ti, isi_si, isi_ll, isi_lb, isi_lo, eCall_k, arg_v, arg_o, arg_b, eJoin_k, joinX_s, join_o, joinK_s, eGlo, setR_f, setR_fo, setR_t, eSeqX_k, eSeq_k, it_lv, it_lo, it_tv, it_s, id_lv, id_lo, id_lb, id_tv, id_tb, id_s, eRngV_k, rng_1, rng_2, eLc_k, lcK_ok, ofD, Bt.fn, Ty.T, List.map_cons, List.map_nil, List.head?_cons, List.head?_nil, List.length_cons, List.length_nil, List.cons_append, List.nil_append, List.replicate_succ, List.replicate_zero, List.getElem?_cons_zero, List.getElem?_cons_succ, List.set_cons_zero, List.set_cons_succ, Nat.reduceSub, Nat.reduceAdd, Nat.zero_add, if_true, Bool.false_eq_true, if_false, Bool.and_true, Bool.true_and, Nat.zero_le, decide_true, Bool.or_true, Bool.true_or, decide_false, Int.reduceLT, Int.reduceLE, Int.reduceMul, Int.reduceAdd, Int.reduceSub, Int.reduceNeg, Int.reduceToNat, Int.reduceMod, Int.reduceDiv, Nat.reduceLeDiff, Nat.reduceLT, Bool.not_true, Bool.not_false, Bool.and_self, beq_self_eq_true, Int.reducePow, Nat.reducePow, Int.reduceBEq, d_names_in, l1, e]
end
mutual
theorem deq_refl : ∀ d : D, noD d = true → deq d d = true
  | .non, _ => rfl
  | .bl b, _ => by simp [deq]
  | .int i, _ => by simp [deq]
  | .str x, _ => by simp [deq]
  | .tup ds, h => by simp only [deq]; exact deqs_refl ds (by simpa [noD] using h)
  | .lst ds, h => by simp only [deq]; exact deqs_refl ds (by simpa [noD] using h)
  | .dct _ _ _, h => by simp [noD] at h
theorem deqs_refl : ∀ ds : List D, noDs ds = true → deqs ds ds = true
  | [], _ => rfl
  | d :: ds, h => by
    simp only [noDs, Bool.and_eq_true] at h
    simp only [deqs, deq_refl d h.1, deqs_refl ds h.2, Bool.and_self]
end
/-- kinds put together in pairs at drawn places -/
def ktot (l : List Kd) : Nat := (l.map Kd.lv).sum
def kmrg (l : List Kd) (k : Nat) : List Kd := l.take k ++ [.pr (l.getD k (.num 0)) (l.getD (k + 1) (.num 0))] ++ l.drop (k + 2)
theorem kmrg_len {l : List Kd} {k : Nat} (h : k + 1 < l.length) : (kmrg l k).length + 1 = l.length := by
  unfold kmrg
  simp only [List.length_append, List.length_take, List.length_drop, List.length_cons, List.length_nil]
  omega
theorem ksplit {l : List Kd} {k : Nat} (h : k + 1 < l.length) : l = l.take k ++ (l.getD k (.num 0) :: l.getD (k + 1) (.num 0) :: l.drop (k + 2)) := by
  have h1 : l.drop k = l.getD k (.num 0) :: l.getD (k + 1) (.num 0) :: l.drop (k + 2) := by
    rw [List.drop_eq_getElem_cons (by omega : k < l.length), List.drop_eq_getElem_cons (by omega : k + 1 < l.length)]
    simp [List.getD, List.getElem?_eq_getElem (by omega : k < l.length), List.getElem?_eq_getElem (by omega : k + 1 < l.length)]
  rw [← h1, List.take_append_drop]
theorem kmrg_ls {l : List Kd} {k : Nat} (h : k + 1 < l.length) : (kmrg l k).flatMap Kd.ls = l.flatMap Kd.ls := by
  have e := congrArg (List.flatMap Kd.ls) (ksplit h)
  rw [e]
  unfold kmrg
  simp only [List.flatMap_append, List.flatMap_cons, List.flatMap_nil, Kd.ls, List.append_assoc, List.nil_append, List.append_nil]
theorem kmrg_tot {l : List Kd} {k : Nat} (h : k + 1 < l.length) : ktot (kmrg l k) = ktot l := by
  have e := congrArg ktot (ksplit h)
  rw [e]
  unfold ktot kmrg
  simp only [List.map_append, List.map_cons, List.map_nil, List.sum_append, List.sum_cons, List.sum_nil, Kd.lv]
  omega
theorem kget {α : Type} (f : Kd → α) {l : List Kd} {k : Nat} (h : k < l.length) : atI (l.map f) (k : Int) = some (f (l.getD k (.num 0))) := by
  rw [atI_map, atI_in (by omega) (by omega)]
  simp [List.getD, List.getElem?_eq_getElem h]
def d_tree : Df := ⟨2, ["_law_leaves_here", "_law_turn", "_law_row", "_law_k"],
  [.set false 2 (.blt .list [.var 0]),
  .whl 1000 (.cmp .Gt (.blt .len [.var 2]) (.cst (.int 1)))
    [.set false 3 (.bin .Mod (.var 1) (.bin .Sub (.blt .len [.var 2]) (.cst (.int 1)))),
    .set false 1 (.bin .Mod (.bin .Add (.bin .Mult (.var 1) (.cst (.int 48271))) (.cst (.int 7919))) (.cst (.int 2147483647))),
    .set false 2 (.bin .Add (.bin .Add (.sl (.var 2) [] [.var 3]) (.lst [.tup [.cst (.str "pair"), .ix (.var 2) (.var 3), .ix (.var 2) (.bin .Add (.var 3) (.cst (.int 1)))]])) (.sl (.var 2) [.bin .Add (.var 3) (.cst (.int 2))] []))],
  .ret (.ix (.var 2) (.cst (.int 0)))], none⟩
def treeB : List Sm := match d_tree.body.getD 1 .pass with
  | .whl _ _ b => b
  | _ => []
theorem tree_go (g : G) (nums : R) : ∀ (m f : Nat) (l : List Kd) (turn : Int) (b : Option R), l.length = m + 1 → m < f → l.length ≤ 1000 →
    ∃ t b' c, t.ls = l.flatMap Kd.ls ∧ t.lv = ktot l ∧ whGo (den g (.cmp .Gt (.blt .len [.var 2]) (.cst (.int 1)))) (denB g treeB) f
      [some nums, some (.val (.int turn)), some (.val (.lst (l.map Kd.d))), b] = .nx [some nums, some (.val (.int c)), some (.val (.lst [Kd.d t])), b']
  | _, 0, _, _, _, _, hf, _ => by omega
  | 0, f + 1, l, turn, b, hl, _, _ => by
    match l, hl with
    | [t], _ =>
      have d1 : decide ((1 : Int) < ((1 : Nat) : Int)) = false := rfl
      refine ⟨t, b, turn, by simp, by simp [ktot], ?_⟩
      rw [whGo_k]
      simp only [dn_get1, dn_dct0, dn_din, ds_dput, dk_s, dk_i, dk_t0, dk_t1, dk_t2, dk_t3, sDput_k, dputA_d, dputC_k, eDin_k, din_v, din_o, din_b, ain_s, anin_s, dinC_t, dinC_f, ix_dv, ix_do, ix_db, ixC_k, getO_some, getO_none, getC_k, eGet1_k, eGet2_k, get1_v, get1_o, get1_b, get2_v, get2_o, get2_b, runD, runO, st0, run_rn, runO_rn, fin_nx, fin_rt, fin_ex, denB_nil, denB_cons, dens, dn_var, dn_cst, dn_glo, dn_tup, dn_lst, dn_and, dn_or, dn_not, dn_neg, dn_bin, dn_cmp, dn_chn, dn_ite, dn_ix, dn_sl, dn_blt, dn_isi, dn_join, dn_get2, dn_call, dn_rng, dn_lc, ds_pass, ds_brk, ds_cnt, ds_drop, ds_ret, ds_retN, ds_retV, ds_set, ds_unp, ds_ite, ds_fore, ds_whl, ds_app, ds_ext, ds_clr, ds_frz, ds_lend, ds_callO, ds_raise, ds_tryM, denL, List.zip_cons_cons, List.zip_nil_left, List.zip_nil_right, sTry_k, tK_nx, tK_rt, tK_bk, tK_ct, tK_ex, catch_nil, catch_cons, caK_t, caK_f, noX_nx, noX_rt, noX_bk, noX_ct, oSeq_k, oK_nx, oK_rt, oK_bk, oK_ct, oK_ex, oK_st, oB_ok, oB_exc, Res.bind_ok, Res.bind_exc, Res.bind_stuck, sSet, sIf_k, oIf_t, oIf_f, sRet, sRetV, sRetN, sDrop, sFrz, sApp_k, appK_v, appK_o, sExt_k, extK_v, extK_o, sClr, onL, sLend, sCallO, onO, oBs_k, callO_k, cK_s, bK_nx, bK_rt, backO, argO, Option.map_some, sUnp_k, unpK_v, setAll, vals, sFor_k, forK_ok, whK_t, whK_f, whN_nx, whN_ct, whN_bk, whN_rt, whN_ex, eVar, eArgs_nil, eArgs_cons, eTup_k, eLst_k, tupK_s, lstK_s, frozs_nil, frozs_cons, froK_s, froz_v, froz_o, eAnd_k, eOr_k, eNot_k, eIte_k, andK_t, andK_f, orK_t, orK_f, iteK_t, iteK_f, notK_b, eNeg, neg_i, eBin, bin_add, bin_sub, bin_mul, bin_div, bin_mod, bin_pow, add_i, add_s, add_oo, add_ov, add_vo, add_vv, sub_i, mul_r, mul_l, mul_s, mul_o, div_p, mod_p, pow_p, eCmp, c_eq, c_ne, c_lt, c_le, c_gt, c_ge, c_is, c_in, c_nin, eq_ii, eq_ss, eq_bb, ne_ii, ne_ss, ne_bb, lt_ii, le_ii, gt_ii, ge_ii, in_ss, nin_ss, eIx, optR_some, ix_lv, ix_lo, ix_lb, ix_tv, ix_tb, ix_s, eSl_k, sl_s, sl_lv, sl_lo, sl_lb, sl_tv, part_none, part_some, pK_i, eBlt_k, len_s, len_lv, len_lo, len_lb, len_tv, len_tb, str_p, int_i, int_b, list_lv, list_lo, list_lb, list_tv, tuple_lv, tuple_lo, tuple_lb, tuple_tv, all_o, any_o, sum_o, min_i, max_i, eIsi_k, isi_bb, isi_ii, isi_bi, isi_ss, isi_st, isi_tt, isi_ts, isi_it, isi_ti, isi_si, isi_ll, isi_lb, isi_lo, eCall_k, arg_v, arg_o, arg_b, eJoin_k, joinX_s, join_o, joinK_s, eGlo, setR_f, setR_fo, setR_t, eSeqX_k, eSeq_k, it_lv, it_lo, it_tv, it_s, id_lv, id_lo, id_lb, id_tv, id_tb, id_s, eRngV_k, rng_1, rng_2, eLc_k, lcK_ok, ofD, Bt.fn, Ty.T, List.map_cons, List.map_nil, List.head?_cons, List.head?_nil, List.length_cons, List.length_nil, List.cons_append, List.nil_append, List.replicate_succ, List.replicate_zero, List.getElem?_cons_zero, List.getElem?_cons_succ, List.set_cons_zero, List.set_cons_succ, Nat.reduceSub, Nat.reduceAdd, Nat.zero_add, if_true, Bool.false_eq_true, if_false, Bool.and_true, Bool.true_and, Nat.zero_le, decide_true, Bool.or_true, Bool.true_or, decide_false, Int.reduceLT, Int.reduceLE, Int.reduceMul, Int.reduceAdd, Int.reduceSub, Int.reduceNeg, Int.reduceToNat, Int.reduceMod, Int.reduceDiv, Nat.reduceLeDiff, Nat.reduceLT, Bool.not_true, Bool.not_false, Bool.and_self, beq_self_eq_true, Int.reducePow, Nat.reducePow, Int.reduceBEq, List.map_cons, List.map_nil, d1]
  | m + 1, f + 1, l, turn, b, hl, hf, hz => by
    have pos : (0 : Int) < (l.length : Int) - 1 := by omega
    obtain ⟨k, hk⟩ := Int.eq_ofNat_of_zero_le (Int.emod_nonneg turn (by omega : (l.length : Int) - 1 ≠ 0))
    have hk2 : k + 1 < l.length := by have := Int.emod_lt_of_pos turn pos; omega
    have d1 : decide ((1 : Int) < (l.length : Int)) = true := decide_eq_true (by omega)
    obtain ⟨t', b', c', h1, h2, h3⟩ := tree_go g nums m f (kmrg l k) ((turn * 48271 + 7919) % 2147483647) (some (.val (.int k))) (by have := kmrg_len hk2; omega) (by omega) (by have := kmrg_len hk2; omega)
    refine ⟨t', b', c', by rw [h1, kmrg_ls hk2], by rw [h2, kmrg_tot hk2], ?_⟩
    rw [← h3]
    have g0 := kget Kd.d (k := k) (l := l) (by omega)
    have g1 := kget Kd.d (k := k + 1) (l := l) hk2
    have ck : ((k + 1 : Nat) : Int) = (k : Int) + 1 := by omega
    have ck2 : ((k + 2 : Nat) : Int) = (k : Int) + 2 := by omega
    rw [ck] at g1
    have z2 : (1 : Nat) ≤ LIM := by decide
    have z3 : (3 : Nat) ≤ LIM := by decide
    have cD : cutL (l.map Kd.d) none (some (k : Int)) = (l.take k).map Kd.d := by rw [cutL_to, List.map_take]
    have cD2 : cutL (l.map Kd.d) (some ((k : Int) + 2)) none = (l.drop (k + 2)).map Kd.d := by rw [← ck2, cutL_from, List.map_drop]
    have w1 : (l.take k).length + 1 ≤ LIM := lim_mid (by rw [List.length_take]; omega)
    have w2 : ∀ d : D, (((l.take k).map Kd.d ++ [d]).length + (l.drop (k + 2)).length) ≤ LIM := fun d => lim_mid (by simp only [List.length_append, List.length_map, List.length_take, List.length_drop, List.length_cons, List.length_nil]; omega)
    have fin : (kmrg l k).map Kd.d = (l.take k).map Kd.d ++ [.tup [.str "pair", (l.getD k (.num 0)).d, (l.getD (k + 1) (.num 0)).d]] ++ (l.drop (k + 2)).map Kd.d := by
      unfold kmrg
      simp only [List.map_append, List.map_cons, List.map_nil, Kd.d]
    rw [whGo_k]
    simp only [dn_get1, dn_dct0, dn_din, ds_dput, dk_s, dk_i, dk_t0, dk_t1, dk_t2, dk_t3, sDput_k, dputA_d, dputC_k, eDin_k, din_v, din_o, din_b, ain_s, anin_s, dinC_t, dinC_f, ix_dv, ix_do, ix_db, ixC_k, getO_some, getO_none, getC_k, eGet1_k, eGet2_k, get1_v, get1_o, get1_b, get2_v, get2_o, get2_b, runD, runO, st0, run_rn, runO_rn, fin_nx, fin_rt, fin_ex, denB_nil, denB_cons, dens, dn_var, dn_cst, dn_glo, dn_tup, dn_lst, dn_and, dn_or, dn_not, dn_neg, dn_bin, dn_cmp, dn_chn, dn_ite, dn_ix, dn_sl, dn_blt, dn_isi, dn_join, dn_get2, dn_call, dn_rng, dn_lc, ds_pass, ds_brk, ds_cnt, ds_drop, ds_ret, ds_retN, ds_retV, ds_set, ds_unp, ds_ite, ds_fore, ds_whl, ds_app, ds_ext, ds_clr, ds_frz, ds_lend, ds_callO, ds_raise, ds_tryM, denL, List.zip_cons_cons, List.zip_nil_left, List.zip_nil_right, sTry_k, tK_nx, tK_rt, tK_bk, tK_ct, tK_ex, catch_nil, catch_cons, caK_t, caK_f, noX_nx, noX_rt, noX_bk, noX_ct, oSeq_k, oK_nx, oK_rt, oK_bk, oK_ct, oK_ex, oK_st, oB_ok, oB_exc, Res.bind_ok, Res.bind_exc, Res.bind_stuck, sSet, sIf_k, oIf_t, oIf_f, sRet, sRetV, sRetN, sDrop, sFrz, sApp_k, appK_v, appK_o, sExt_k, extK_v, extK_o, sClr, onL, sLend, sCallO, onO, oBs_k, callO_k, cK_s, bK_nx, bK_rt, backO, argO, Option.map_some, sUnp_k, unpK_v, setAll, vals, sFor_k, forK_ok, whK_t, whK_f, whN_nx, whN_ct, whN_bk, whN_rt, whN_ex, eVar, eArgs_nil, eArgs_cons, eTup_k, eLst_k, tupK_s, lstK_s, frozs_nil, frozs_cons, froK_s, froz_v, froz_o, eAnd_k, eOr_k, eNot_k, eIte_k, andK_t, andK_f, orK_t, orK_f, iteK_t, iteK_f, notK_b, eNeg, neg_i, eBin, bin_add, bin_sub, bin_mul, bin_div, bin_mod, bin_pow, add_i, add_s, add_oo, add_ov, add_vo, add_vv, sub_i, mul_r, mul_l, mul_s, mul_o, div_p, mod_p, pow_p, eCmp, c_eq, c_ne, c_lt, c_le, c_gt, c_ge, c_is, c_in, c_nin, eq_ii, eq_ss, eq_bb, ne_ii, ne_ss, ne_bb, lt_ii, le_ii, gt_ii, ge_ii, in_ss, nin_ss, eIx, optR_some, ix_lv, ix_lo, ix_lb, ix_tv, ix_tb, ix_s, eSl_k, sl_s, sl_lv, sl_lo, sl_lb, sl_tv, part_none, part_some, pK_i, eBlt_k, len_s, len_lv, len_lo, len_lb, len_tv, len_tb, str_p, int_i, int_b, list_lv, list_lo, list_lb, list_tv, tuple_lv, tuple_lo, tuple_lb, tuple_tv, all_o, any_o, sum_o, min_i, max_i, eIsi_k, isi_bb, isi_ii, isi_bi, isi_ss, isi_st, isi_tt, isi_ts, isi_it, isi_ti, isi_si, isi_ll, isi_lb, isi_lo, eCall_k, arg_v, arg_o, arg_b, eJoin_k, joinX_s, join_o, joinK_s, eGlo, setR_f, setR_fo, setR_t, eSeqX_k, eSeq_k, it_lv, it_lo, it_tv, it_s, id_lv, id_lo, id_lb, id_tv, id_tb, id_s, eRngV_k, rng_1, rng_2, eLc_k, lcK_ok, ofD, Bt.fn, Ty.T, List.map_cons, List.map_nil, List.head?_cons, List.head?_nil, List.length_cons, List.length_nil, List.cons_append, List.nil_append, List.replicate_succ, List.replicate_zero, List.getElem?_cons_zero, List.getElem?_cons_succ, List.set_cons_zero, List.set_cons_succ, Nat.reduceSub, Nat.reduceAdd, Nat.zero_add, if_true, Bool.false_eq_true, if_false, Bool.and_true, Bool.true_and, Nat.zero_le, decide_true, Bool.or_true, Bool.true_or, decide_false, Int.reduceLT, Int.reduceLE, Int.reduceMul, Int.reduceAdd, Int.reduceSub, Int.reduceNeg, Int.reduceToNat, Int.reduceMod, Int.reduceDiv, Nat.reduceLeDiff, Nat.reduceLT, Bool.not_true, Bool.not_false, Bool.and_self, beq_self_eq_true, Int.reducePow, Nat.reducePow, Int.reduceBEq, treeB, d_tree, List.getD_cons_succ, List.getD_cons_zero, List.length_map, d1, pos, hk, g0, g1, z2, z3, cD, cD2, w1, w2]
    rw [fin]
theorem tree_eq (g : G) (l : List Kd) (turn : Int) (x : R) (hx : x = .bor (.lst (l.map Kd.d)) ∨ x = .val (.lst (l.map Kd.d))) (h1 : 1 ≤ l.length) (h2 : l.length ≤ 900) : ∃ t : Kd, t.ls = l.flatMap Kd.ls ∧ t.lv = ktot l ∧ runD g d_tree [x, .val (.int turn)] = .ok (.val t.d) := by
  obtain ⟨t, b', c, q1, q2, q3⟩ := tree_go g x (l.length - 1) 1000 l turn none (by omega) (by omega) (by omega)
  refine ⟨t, q1, q2, ?_⟩
  simp only [treeB, d_tree, List.getD_cons_succ, List.getD_cons_zero] at q3
  rcases hx with rfl | rfl <;> simp only [dn_get1, dn_dct0, dn_din, ds_dput, dk_s, dk_i, dk_t0, dk_t1, dk_t2, dk_t3, sDput_k, dputA_d, dputC_k, eDin_k, din_v, din_o, din_b, ain_s, anin_s, dinC_t, dinC_f, ix_dv, ix_do, ix_db, ixC_k, getO_some, getO_none, getC_k, eGet1_k, eGet2_k, get1_v, get1_o, get1_b, get2_v, get2_o, get2_b, runD, runO, st0, run_rn, runO_rn, fin_nx, fin_rt, fin_ex, denB_nil, denB_cons, dens, dn_var, dn_cst, dn_glo, dn_tup, dn_lst, dn_and, dn_or, dn_not, dn_neg, dn_bin, dn_cmp, dn_chn, dn_ite, dn_ix, dn_sl, dn_blt, dn_isi, dn_join, dn_get2, dn_call, dn_rng, dn_lc, ds_pass, ds_brk, ds_cnt, ds_drop, ds_ret, ds_retN, ds_retV, ds_set, ds_unp, ds_ite, ds_fore, ds_whl, ds_app, ds_ext, ds_clr, ds_frz, ds_lend, ds_callO, ds_raise, ds_tryM, denL, List.zip_cons_cons, List.zip_nil_left, List.zip_nil_right, sTry_k, tK_nx, tK_rt, tK_bk, tK_ct, tK_ex, catch_nil, catch_cons, caK_t, caK_f, noX_nx, noX_rt, noX_bk, noX_ct, oSeq_k, oK_nx, oK_rt, oK_bk, oK_ct, oK_ex, oK_st, oB_ok, oB_exc, Res.bind_ok, Res.bind_exc, Res.bind_stuck, sSet, sIf_k, oIf_t, oIf_f, sRet, sRetV, sRetN, sDrop, sFrz, sApp_k, appK_v, appK_o, sExt_k, extK_v, extK_o, sClr, onL, sLend, sCallO, onO, oBs_k, callO_k, cK_s, bK_nx, bK_rt, backO, argO, Option.map_some, sUnp_k, unpK_v, setAll, vals, sFor_k, forK_ok, whK_t, whK_f, whN_nx, whN_ct, whN_bk, whN_rt, whN_ex, eVar, eArgs_nil, eArgs_cons, eTup_k, eLst_k, tupK_s, lstK_s, frozs_nil, frozs_cons, froK_s, froz_v, froz_o, eAnd_k, eOr_k, eNot_k, eIte_k, andK_t, andK_f, orK_t, orK_f, iteK_t, iteK_f, notK_b, eNeg, neg_i, eBin, bin_add, bin_sub, bin_mul, bin_div, bin_mod, bin_pow, add_i, add_s, add_oo, add_ov, add_vo, add_vv, sub_i, mul_r, mul_l, mul_s, mul_o, div_p, mod_p, pow_p, eCmp, c_eq, c_ne, c_lt, c_le, c_gt, c_ge, c_is, c_in, c_nin, eq_ii, eq_ss, eq_bb, ne_ii, ne_ss, ne_bb, lt_ii, le_ii, gt_ii, ge_ii, in_ss, nin_ss, eIx, optR_some, ix_lv, ix_lo, ix_lb, ix_tv, ix_tb, ix_s, eSl_k, sl_s, sl_lv, sl_lo, sl_lb, sl_tv, part_none, part_some, pK_i, eBlt_k, len_s, len_lv, len_lo, len_lb, len_tv, len_tb, str_p, int_i, int_b, list_lv, list_lo, list_lb, list_tv, tuple_lv, tuple_lo, tuple_lb, tuple_tv, all_o, any_o, sum_o, min_i, max_i, eIsi_k, isi_bb, isi_ii, isi_bi, isi_ss, isi_st, isi_tt, isi_ts, isi_it, isi_ti, isi_si, isi_ll, isi_lb, isi_lo, eCall_k, arg_v, arg_o, arg_b, eJoin_k, joinX_s, join_o, joinK_s, eGlo, setR_f, setR_fo, setR_t, eSeqX_k, eSeq_k, it_lv, it_lo, it_tv, it_s, id_lv, id_lo, id_lb, id_tv, id_tb, id_s, eRngV_k, rng_1, rng_2, eLc_k, lcK_ok, ofD, Bt.fn, Ty.T, List.map_cons, List.map_nil, List.head?_cons, List.head?_nil, List.length_cons, List.length_nil, List.cons_append, List.nil_append, List.replicate_succ, List.replicate_zero, List.getElem?_cons_zero, List.getElem?_cons_succ, List.set_cons_zero, List.set_cons_succ, Nat.reduceSub, Nat.reduceAdd, Nat.zero_add, if_true, Bool.false_eq_true, if_false, Bool.and_true, Bool.true_and, Nat.zero_le, decide_true, Bool.or_true, Bool.true_or, decide_false, Int.reduceLT, Int.reduceLE, Int.reduceMul, Int.reduceAdd, Int.reduceSub, Int.reduceNeg, Int.reduceToNat, Int.reduceMod, Int.reduceDiv, Nat.reduceLeDiff, Nat.reduceLT, Bool.not_true, Bool.not_false, Bool.and_self, beq_self_eq_true, Int.reducePow, Nat.reducePow, Int.reduceBEq, d_tree, q3, atI0]

theorem cpNe_bb (a b : D) : cpNe (.bor a) (.bor b) = if eqOk a b = true then .ok (.val (.bl !deq a b)) else .stuck := rfl
theorem cpEq_ob (a b : D) : cpEq (.own a) (.bor b) = if eqOk a b = true then .ok (.val (.bl (deq a b))) else .stuck := rfl
theorem eqOk_nn (a b : List Nm) : eqOk (.lst (a.map Nm.d)) (.lst (b.map Nm.d)) = true := by
  obtain ⟨h1, h2⟩ := nms_no a
  obtain ⟨h3, h4⟩ := nms_no b
  have h5 : decide (dep (.lst (a.map Nm.d)) ≤ 150) = true := decide_eq_true (by simp only [dep]; omega)
  simp only [eqOk, noD, h1, h3, h5]
  rfl
theorem deq_nn (a : List Nm) : deq (.lst (a.map Nm.d)) (.lst (a.map Nm.d)) = true := deq_refl _ (by simp only [noD]; exact (nms_no a).1)
def Kd.leaf : Kd → Bool
  | .pr _ _ => false
  | _ => true
theorem Kd.note_ls : ∀ (k : Kd) (acc : List Nm), k.note acc = k.ls.foldl (fun a l => l.note a) acc
  | .num _, _ => rfl
  | .nam _ _, _ => rfl
  | .pr a b, acc => by
    simp only [Kd.note, Kd.ls, List.foldl_append]
    rw [← Kd.note_ls a acc, ← Kd.note_ls b]
theorem leaves_ls : ∀ {l : List Kd}, (∀ k ∈ l, k.leaf = true) → l.flatMap Kd.ls = l ∧ ktot l = l.length
  | [], _ => ⟨rfl, rfl⟩
  | k :: l, h => by
    obtain ⟨h1, h2⟩ := leaves_ls (l := l) fun x hx => h x (List.mem_cons_of_mem _ hx)
    have hk := h k List.mem_cons_self
    unfold ktot at h2 ⊢
    simp only [List.flatMap_cons, h1, List.map_cons, List.sum_cons, h2, List.length_cons]
    cases k with
    | pr a b => simp [Kd.leaf] at hk
    | num i => exact ⟨rfl, by simp only [Kd.lv]; omega⟩
    | nam q t => exact ⟨rfl, by simp only [Kd.lv]; omega⟩
theorem strRep1 (c : Nat) (k : Int) : (strRep ⟨#[c]⟩ k).length = k.toNat := by
  rw [len_cps]
  unfold strRep
  simp
/-- a word of one to twelve letters -/
def d_word : Df := ⟨1, ["_law_cell_here", "_law_letters", "_law_size", "_law_left", "_law_word_here", "_law_at"],
  [.set false 1 (.cst (.str "abcdefghijklmnopqrstuvwxyz")),
  .set false 2 (.bin .Add (.cst (.int 1)) (.bin .Mod (.var 0) (.cst (.int 12)))),
  .set false 3 (.bin .Mod (.bin .FloorDiv (.var 0) (.cst (.int 12))) (.cst (.int 1000000007))),
  .set false 4 (.bin .Mult (.ix (.var 1) (.bin .Mod (.var 3) (.cst (.int 26)))) (.var 2)),
  .set false 5 (.bin .Mod (.bin .FloorDiv (.var 3) (.cst (.int 26))) (.var 2)),
  .set false 4 (.bin .Add (.bin .Add (.sl (.var 4) [] [.var 5]) (.ix (.var 1) (.bin .Mod (.bin .FloorDiv (.var 3) (.cst (.int 312))) (.cst (.int 26))))) (.sl (.var 4) [.bin .Add (.var 5) (.cst (.int 1))] [])),
  .ite (.cmp .In (.var 4) (.lst [.cst (.str "num"), .cst (.str "pair"), .cst (.str "lit"), .cst (.str "as"), .cst (.str "if"), .cst (.str "let"), .cst (.str "two"), .cst (.str "first"), .cst (.str "second")]))
    [.ret (.bin .Add (.var 4) (.cst (.str "x")))]
    [],
  .retV 4], none⟩
theorem word_eq (g : G) (x : Int) : ∃ w : Str, runD g d_word [.val (.int x)] = .ok (.val (.str w)) ∧ w.length ≤ 40 := by
  have hA : Str.length "abcdefghijklmnopqrstuvwxyz" ≤ LIM := by decide +kernel
  obtain ⟨c, hc⟩ := at_lit (z := "abcdefghijklmnopqrstuvwxyz") (n := 26) (by decide +kernel) (i := x / 12 % 1000000007 % 26) (by omega) (by omega)
  obtain ⟨c', hc'⟩ := at_lit (z := "abcdefghijklmnopqrstuvwxyz") (n := 26) (by decide +kernel) (i := x / 12 % 1000000007 / 312 % 26) (by omega) (by omega)
  have p0 : decide (0 ≤ 1 + x % 12) = true := decide_eq_true (by omega)
  have p1 : decide (1 + x % 12 ≤ 1000) = true := decide_eq_true (by omega)
  have p2 : decide (Str.length ⟨#[c]⟩ ≤ 1000) = true := rfl
  have p3 : (0 : Int) < 1 + x % 12 := by omega
  have r := strRep1 c (1 + x % 12)
  generalize hr : strRep ⟨#[c]⟩ (1 + x % 12) = z at r
  generalize hk : x / 12 % 1000000007 / 26 % (1 + x % 12) = k
  have hz : z.length ≤ 12 := by omega
  have l1 := cutS_le z none (some k)
  have l2 := cutS_le z (some (k + 1)) none
  have q1 : (cutS z none (some k)).length + Str.length ⟨#[c']⟩ ≤ LIM := lim_small (by rw [len1]; omega)
  have q2 : (cutS z none (some k) ++ ⟨#[c']⟩).length + (cutS z (some (k + 1)) none).length ≤ LIM := lim_small (by rw [len_app, len1]; omega)
  have hw : (cutS z none (some k) ++ ⟨#[c']⟩ ++ cutS z (some (k + 1)) none).length ≤ 30 := by rw [len_app, len_app, len1]; omega
  have hin := in_lo (cutS z none (some k) ++ ⟨#[c']⟩ ++ cutS z (some (k + 1)) none) (ds := [.str "num", .str "pair", .str "lit", .str "as", .str "if", .str "let", .str "two", .str "first", .str "second"]) (by decide +kernel)
  have n9 : (9 : Nat) ≤ LIM := by decide
  have hx : (cutS z none (some k) ++ ⟨#[c']⟩ ++ cutS z (some (k + 1)) none).length + Str.length "x" ≤ LIM := lim_small (by show _ + 1 ≤ _; omega)
  have zl : z.length ≤ LIM := lim_small (by omega)
  cases hb : inD (.str (cutS z none (some k) ++ ⟨#[c']⟩ ++ cutS z (some (k + 1)) none)) [.str "num", .str "pair", .str "lit", .str "as", .str "if", .str "let", .str "two", .str "first", .str "second"] <;> rw [hb] at hin
  · refine ⟨_, by simp only [dn_get1, dn_dct0, dn_din, ds_dput, dk_s, dk_i, dk_t0, dk_t1, dk_t2, dk_t3, sDput_k, dputA_d, dputC_k, eDin_k, din_v, din_o, din_b, ain_s, anin_s, dinC_t, dinC_f, ix_dv, ix_do, ix_db, ixC_k, getO_some, getO_none, getC_k, eGet1_k, eGet2_k, get1_v, get1_o, get1_b, get2_v, get2_o, get2_b, runD, runO, st0, run_rn, runO_rn, fin_nx, fin_rt, fin_ex, denB_nil, denB_cons, dens, dn_var, dn_cst, dn_glo, dn_tup, dn_lst, dn_and, dn_or, dn_not, dn_neg, dn_bin, dn_cmp, dn_chn, dn_ite, dn_ix, dn_sl, dn_blt, dn_isi, dn_join, dn_get2, dn_call, dn_rng, dn_lc, ds_pass, ds_brk, ds_cnt, ds_drop, ds_ret, ds_retN, ds_retV, ds_set, ds_unp, ds_ite, ds_fore, ds_whl, ds_app, ds_ext, ds_clr, ds_frz, ds_lend, ds_callO, ds_raise, ds_tryM, denL, List.zip_cons_cons, List.zip_nil_left, List.zip_nil_right, sTry_k, tK_nx, tK_rt, tK_bk, tK_ct, tK_ex, catch_nil, catch_cons, caK_t, caK_f, noX_nx, noX_rt, noX_bk, noX_ct, oSeq_k, oK_nx, oK_rt, oK_bk, oK_ct, oK_ex, oK_st, oB_ok, oB_exc, Res.bind_ok, Res.bind_exc, Res.bind_stuck, sSet, sIf_k, oIf_t, oIf_f, sRet, sRetV, sRetN, sDrop, sFrz, sApp_k, appK_v, appK_o, sExt_k, extK_v, extK_o, sClr, onL, sLend, sCallO, onO, oBs_k, callO_k, cK_s, bK_nx, bK_rt, backO, argO, Option.map_some, sUnp_k, unpK_v, setAll, vals, sFor_k, forK_ok, whK_t, whK_f, whN_nx, whN_ct, whN_bk, whN_rt, whN_ex, eVar, eArgs_nil, eArgs_cons, eTup_k, eLst_k, tupK_s, lstK_s, frozs_nil, frozs_cons, froK_s, froz_v, froz_o, eAnd_k, eOr_k, eNot_k, eIte_k, andK_t, andK_f, orK_t, orK_f, iteK_t, iteK_f, notK_b, eNeg, neg_i, eBin, bin_add, bin_sub, bin_mul, bin_div, bin_mod, bin_pow, add_i, add_s, add_oo, add_ov, add_vo, add_vv, sub_i, mul_r, mul_l, mul_s, mul_o, div_p, mod_p, pow_p, eCmp, c_eq, c_ne, c_lt, c_le, c_gt, c_ge, c_is, c_in, c_nin, eq_ii, eq_ss, eq_bb, ne_ii, ne_ss, ne_bb, lt_ii, le_ii, gt_ii, ge_ii, in_ss, nin_ss, eIx, optR_some, ix_lv, ix_lo, ix_lb, ix_tv, ix_tb, ix_s, eSl_k, sl_s, sl_lv, sl_lo, sl_lb, sl_tv, part_none, part_some, pK_i, eBlt_k, len_s, len_lv, len_lo, len_lb, len_tv, len_tb, str_p, int_i, int_b, list_lv, list_lo, list_lb, list_tv, tuple_lv, tuple_lo, tuple_lb, tuple_tv, all_o, any_o, sum_o, min_i, max_i, eIsi_k, isi_bb, isi_ii, isi_bi, isi_ss, isi_st, isi_tt, isi_ts, isi_it, isi_ti, isi_si, isi_ll, isi_lb, isi_lo, eCall_k, arg_v, arg_o, arg_b, eJoin_k, joinX_s, join_o, joinK_s, eGlo, setR_f, setR_fo, setR_t, eSeqX_k, eSeq_k, it_lv, it_lo, it_tv, it_s, id_lv, id_lo, id_lb, id_tv, id_tb, id_s, eRngV_k, rng_1, rng_2, eLc_k, lcK_ok, ofD, Bt.fn, Ty.T, List.map_cons, List.map_nil, List.head?_cons, List.head?_nil, List.length_cons, List.length_nil, List.cons_append, List.nil_append, List.replicate_succ, List.replicate_zero, List.getElem?_cons_zero, List.getElem?_cons_succ, List.set_cons_zero, List.set_cons_succ, Nat.reduceSub, Nat.reduceAdd, Nat.zero_add, if_true, Bool.false_eq_true, if_false, Bool.and_true, Bool.true_and, Nat.zero_le, decide_true, Bool.or_true, Bool.true_or, decide_false, Int.reduceLT, Int.reduceLE, Int.reduceMul, Int.reduceAdd, Int.reduceSub, Int.reduceNeg, Int.reduceToNat, Int.reduceMod, Int.reduceDiv, Nat.reduceLeDiff, Nat.reduceLT, Bool.not_true, Bool.not_false, Bool.and_self, beq_self_eq_true, Int.reducePow, Nat.reducePow, Int.reduceBEq, d_word, hA, hc, hc', p0, p1, p2, p3, hr, hk, zl, q1, q2, n9, hin]; rfl, by omega⟩
  · refine ⟨_, by simp only [dn_get1, dn_dct0, dn_din, ds_dput, dk_s, dk_i, dk_t0, dk_t1, dk_t2, dk_t3, sDput_k, dputA_d, dputC_k, eDin_k, din_v, din_o, din_b, ain_s, anin_s, dinC_t, dinC_f, ix_dv, ix_do, ix_db, ixC_k, getO_some, getO_none, getC_k, eGet1_k, eGet2_k, get1_v, get1_o, get1_b, get2_v, get2_o, get2_b, runD, runO, st0, run_rn, runO_rn, fin_nx, fin_rt, fin_ex, denB_nil, denB_cons, dens, dn_var, dn_cst, dn_glo, dn_tup, dn_lst, dn_and, dn_or, dn_not, dn_neg, dn_bin, dn_cmp, dn_chn, dn_ite, dn_ix, dn_sl, dn_blt, dn_isi, dn_join, dn_get2, dn_call, dn_rng, dn_lc, ds_pass, ds_brk, ds_cnt, ds_drop, ds_ret, ds_retN, ds_retV, ds_set, ds_unp, ds_ite, ds_fore, ds_whl, ds_app, ds_ext, ds_clr, ds_frz, ds_lend, ds_callO, ds_raise, ds_tryM, denL, List.zip_cons_cons, List.zip_nil_left, List.zip_nil_right, sTry_k, tK_nx, tK_rt, tK_bk, tK_ct, tK_ex, catch_nil, catch_cons, caK_t, caK_f, noX_nx, noX_rt, noX_bk, noX_ct, oSeq_k, oK_nx, oK_rt, oK_bk, oK_ct, oK_ex, oK_st, oB_ok, oB_exc, Res.bind_ok, Res.bind_exc, Res.bind_stuck, sSet, sIf_k, oIf_t, oIf_f, sRet, sRetV, sRetN, sDrop, sFrz, sApp_k, appK_v, appK_o, sExt_k, extK_v, extK_o, sClr, onL, sLend, sCallO, onO, oBs_k, callO_k, cK_s, bK_nx, bK_rt, backO, argO, Option.map_some, sUnp_k, unpK_v, setAll, vals, sFor_k, forK_ok, whK_t, whK_f, whN_nx, whN_ct, whN_bk, whN_rt, whN_ex, eVar, eArgs_nil, eArgs_cons, eTup_k, eLst_k, tupK_s, lstK_s, frozs_nil, frozs_cons, froK_s, froz_v, froz_o, eAnd_k, eOr_k, eNot_k, eIte_k, andK_t, andK_f, orK_t, orK_f, iteK_t, iteK_f, notK_b, eNeg, neg_i, eBin, bin_add, bin_sub, bin_mul, bin_div, bin_mod, bin_pow, add_i, add_s, add_oo, add_ov, add_vo, add_vv, sub_i, mul_r, mul_l, mul_s, mul_o, div_p, mod_p, pow_p, eCmp, c_eq, c_ne, c_lt, c_le, c_gt, c_ge, c_is, c_in, c_nin, eq_ii, eq_ss, eq_bb, ne_ii, ne_ss, ne_bb, lt_ii, le_ii, gt_ii, ge_ii, in_ss, nin_ss, eIx, optR_some, ix_lv, ix_lo, ix_lb, ix_tv, ix_tb, ix_s, eSl_k, sl_s, sl_lv, sl_lo, sl_lb, sl_tv, part_none, part_some, pK_i, eBlt_k, len_s, len_lv, len_lo, len_lb, len_tv, len_tb, str_p, int_i, int_b, list_lv, list_lo, list_lb, list_tv, tuple_lv, tuple_lo, tuple_lb, tuple_tv, all_o, any_o, sum_o, min_i, max_i, eIsi_k, isi_bb, isi_ii, isi_bi, isi_ss, isi_st, isi_tt, isi_ts, isi_it, isi_ti, isi_si, isi_ll, isi_lb, isi_lo, eCall_k, arg_v, arg_o, arg_b, eJoin_k, joinX_s, join_o, joinK_s, eGlo, setR_f, setR_fo, setR_t, eSeqX_k, eSeq_k, it_lv, it_lo, it_tv, it_s, id_lv, id_lo, id_lb, id_tv, id_tb, id_s, eRngV_k, rng_1, rng_2, eLc_k, lcK_ok, ofD, Bt.fn, Ty.T, List.map_cons, List.map_nil, List.head?_cons, List.head?_nil, List.length_cons, List.length_nil, List.cons_append, List.nil_append, List.replicate_succ, List.replicate_zero, List.getElem?_cons_zero, List.getElem?_cons_succ, List.set_cons_zero, List.set_cons_succ, Nat.reduceSub, Nat.reduceAdd, Nat.zero_add, if_true, Bool.false_eq_true, if_false, Bool.and_true, Bool.true_and, Nat.zero_le, decide_true, Bool.or_true, Bool.true_or, decide_false, Int.reduceLT, Int.reduceLE, Int.reduceMul, Int.reduceAdd, Int.reduceSub, Int.reduceNeg, Int.reduceToNat, Int.reduceMod, Int.reduceDiv, Nat.reduceLeDiff, Nat.reduceLT, Bool.not_true, Bool.not_false, Bool.and_self, beq_self_eq_true, Int.reducePow, Nat.reducePow, Int.reduceBEq, d_word, hA, hc, hc', p0, p1, p2, p3, hr, hk, zl, q1, q2, n9, hin, hx]; rfl, by rw [len_app]; show _ + 1 ≤ _; omega⟩
end Mp


namespace Lw
open PySem L2 Mp
/-! ### the text in words -/
def top (i : Nat) : Stmt := PySem.Challenge.pw_sealhouse_k81_tied_by_a_paper.main.body.getD i (.Pass ⟨0, 0, 0, 0⟩)
def d_tied : Df := ⟨4, ["kind", "one", "other", "paper"],
  [.ite (.cmp .Eq (.ix (.var 0) (.cst (.int 0))) (.cst (.str "num")))
    [.ret (.cmp .Eq (.var 1) (.var 2))]
    [],
  .ite (.cmp .Eq (.ix (.var 0) (.cst (.int 0))) (.cst (.str "pair")))
    [.ret (.and (.call 0 [.ix (.var 0) (.cst (.int 1)), .ix (.var 1) (.cst (.int 0)), .ix (.var 2) (.cst (.int 0)), .var 3]) (.call 0 [.ix (.var 0) (.cst (.int 2)), .ix (.var 1) (.cst (.int 1)), .ix (.var 2) (.cst (.int 1)), .var 3]))]
    [],
  .ret (.din false (.tup [.ix (.var 0) (.cst (.int 2)), .var 1, .var 2]) (.var 3))], none⟩
def d__law_cell_at : Df := ⟨2, ["_law_script", "_law_k", "_law_number"],
  [.ite (.cmp .Lt (.var 1) (.blt .len [.var 0]))
    [.ret (.ix (.var 0) (.var 1))]
    [],
  .set false 2 (.bin .Add (.bin .Mult (.cst (.int 7919)) (.var 1)) (.cst (.int 11))),
  .ite (.cmp .Gt (.blt .len [.var 0]) (.cst (.int 0)))
    [.set false 2 (.bin .Add (.bin .Mult (.bin .Mod (.ix (.var 0) (.bin .Mod (.var 1) (.blt .len [.var 0]))) (.cst (.int 1000003))) (.cst (.int 48271))) (.bin .Mult (.bin .Mult (.cst (.int 7919)) (.var 1)) (.var 1)))]
    [],
  .ret (.bin .Mod (.var 2) (.cst (.int 2147483647)))], none⟩
def d__law_words : Df := ⟨2, ["_law_cell", "_law_many", "_law_letters", "_law_size", "_law_at", "_law_words_here", "_law_k", "_law_signs", "_law_j"],
  [.set false 2 (.cst (.str "abcdefghijklmnopqrstuvwxyz")),
  .set false 3 (.bin .Mod (.var 0) (.cst (.int 12))),
  .ite (.cmp .Eq (.var 3) (.cst (.int 0)))
    [.ret (.lc (.ix (.var 2) (.bin .Mod (.bin .Add (.bin .FloorDiv (.var 0) (.cst (.int 12))) (.var 6)) (.cst (.int 26)))) (.one 6) (.rng [.var 1]) [])]
    [],
  .set false 4 (.bin .Mod (.bin .FloorDiv (.var 0) (.cst (.int 12))) (.var 3)),
  .set true 5 (.lst []),
  .fore (.one 6) (.rng [.var 1])
    [.set false 7 (.lc (.ix (.var 2) (.bin .Mod (.bin .Add (.bin .Add (.bin .FloorDiv (.var 0) (.cst (.int 432))) (.bin .Mult (.bin .Mult (.cst (.int 7)) (.var 8)) (.var 8))) (.bin .Mult (.var 6) (.blt .int [.cmp .Eq (.var 8) (.var 4)]))) (.cst (.int 26)))) (.one 8) (.rng [.var 3]) []),
    .app 5 (.bin .Add (.ix (.cst (.str "kqz")) (.bin .Mod (.bin .FloorDiv (.var 0) (.cst (.int 144))) (.cst (.int 3)))) (.join (.cst (.str "")) (.var 7)))],
  .retV 5], none⟩
def d__law_row : Df := ⟨2, ["_law_cell", "_law_words_here", "_law_at", "_law_one", "_law_other"],
  [.set false 2 (.bin .Mod (.var 0) (.cst (.int 3))),
  .set false 3 (.bin .Mod (.bin .Mult (.bin .FloorDiv (.var 0) (.cst (.int 3))) (.cst (.int 982451653))) (.bin .Pow (.cst (.int 10)) (.cst (.int 18)))),
  .set false 4 (.bin .Mod (.bin .Mult (.bin .FloorDiv (.var 0) (.cst (.int 3))) (.cst (.int 48271))) (.ix (.lst [.bin .Pow (.cst (.int 10)) (.cst (.int 18)), .cst (.int 3)]) (.bin .Mod (.bin .FloorDiv (.var 0) (.cst (.int 3))) (.cst (.int 2))))),
  .ite (.cmp .Eq (.var 2) (.cst (.int 1)))
    [.ret (.tup [.ix (.var 1) (.cst (.int 1)), .var 3, .tup [.var 4, .bin .Mod (.bin .FloorDiv (.var 0) (.cst (.int 6))) (.cst (.int 4))]])]
    [],
  .ret (.tup [.ix (.var 1) (.var 2), .var 3, .var 4])], none⟩
def d__law_near : Df := ⟨3, ["_law_cell", "_law_row_here", "_law_words_here", "_law_goes", "_law_word", "_law_one", "_law_other"],
  [.unp (.many [4, 5, 6]) (.var 1),
  .set false 3 (.bin .Mod (.var 0) (.cst (.int 6))),
  .ite (.and (.cmp .Eq (.var 3) (.cst (.int 3))) (.cmp .NotEq (.var 4) (.ix (.var 2) (.cst (.int 1)))))
    [.ret (.tup [.var 4, .var 6, .var 5])]
    [],
  .ite (.and (.cmp .Eq (.var 3) (.cst (.int 4))) (.cmp .NotEq (.var 4) (.ix (.var 2) (.cst (.int 1)))))
    [.ret (.tup [.ix (.lst [.ix (.var 2) (.cst (.int 0)), .ix (.var 2) (.cst (.int 2))]) (.blt .int [.cmp .Eq (.var 4) (.ix (.var 2) (.cst (.int 0)))]), .var 5, .var 6])]
    [],
  .ite (.and (.cmp .Eq (.var 3) (.cst (.int 5))) (.cmp .NotEq (.var 4) (.ix (.var 2) (.cst (.int 1)))))
    [.ret (.tup [.var 4, .var 5, .bin .Add (.var 6) (.cst (.int 1))])]
    [],
  .ite (.cmp .Eq (.var 3) (.cst (.int 5)))
    [.ret (.tup [.var 4, .var 5, .tup [.ix (.var 6) (.cst (.int 0)), .bin .Add (.ix (.var 6) (.cst (.int 1))) (.cst (.int 1))]])]
    [],
  .retV 1], none⟩
def d__law_leaf : Df := ⟨3, ["_law_cell", "_law_rows", "_law_words_here", "_law_row_here", "_law_lacking", "_law_each", "_law_many", "_law_one", "_law_other"],
  [.ite (.or (.cmp .Eq (.bin .Mod (.var 0) (.cst (.int 3))) (.cst (.int 0))) (.cmp .Eq (.blt .len [.var 1]) (.cst (.int 0))))
    [.set false 6 (.bin .Add (.cst (.int 2)) (.bin .Mod (.bin .Mult (.bin .FloorDiv (.var 0) (.cst (.int 3))) (.cst (.int 7919))) (.bin .Sub (.bin .Pow (.cst (.int 10)) (.cst (.int 18))) (.cst (.int 1))))),
    .set false 7 (.bin .Mod (.bin .Mult (.var 0) (.cst (.int 982451653))) (.var 6)),
    .set false 8 (.bin .Mod (.bin .Add (.var 7) (.blt .int [.cmp .Eq (.bin .Mod (.bin .FloorDiv (.var 0) (.cst (.int 3))) (.cst (.int 7))) (.cst (.int 1))])) (.var 6)),
    .ret (.tup [.tup [.cst (.str "num"), .var 6], .var 7, .var 8, .lst [], .cmp .Eq (.var 7) (.var 8)])]
    [],
  .set false 3 (.call 4 [.bin .FloorDiv (.var 0) (.cst (.int 3)), .ix (.var 1) (.bin .Mod (.bin .FloorDiv (.var 0) (.cst (.int 18))) (.blt .len [.var 1])), .var 2]),
  .set false 4 (.lst [.var 3]),
  .fore (.one 5) (.var 1)
    [.ite (.cmp .Eq (.var 5) (.var 3))
      [.set false 4 (.lst [])]
      []],
  .ret (.tup [.tup [.cst (.str "name"), .cst (.str ""), .ix (.var 3) (.cst (.int 0))], .ix (.var 3) (.cst (.int 1)), .ix (.var 3) (.cst (.int 2)), .var 4, .cst (.bl true)])], none⟩
def d__law_both : Df := ⟨2, ["_law_one", "_law_other", "_law_kind"],
  [.set false 2 (.tup [.cst (.str "pair"), .ix (.var 0) (.cst (.int 0)), .ix (.var 1) (.cst (.int 0))]),
  .ret (.tup [.var 2, .tup [.ix (.var 0) (.cst (.int 1)), .ix (.var 1) (.cst (.int 1))], .tup [.ix (.var 0) (.cst (.int 2)), .ix (.var 1) (.cst (.int 2))], .bin .Add (.ix (.var 0) (.cst (.int 3))) (.ix (.var 1) (.cst (.int 3))), .and (.ix (.var 0) (.cst (.int 4))) (.ix (.var 1) (.cst (.int 4)))])], none⟩
def d__law_tree : Df := ⟨2, ["_law_cell", "_law_leaves", "_law_at"],
  [.whl 1000 (.cmp .Gt (.blt .len [.var 1]) (.cst (.int 1)))
    [.set false 2 (.bin .Mod (.var 0) (.bin .Sub (.blt .len [.var 1]) (.cst (.int 1)))),
    .set false 1 (.bin .Add (.bin .Add (.sl (.var 1) [] [.var 2]) (.lst [.call 6 [.ix (.var 1) (.var 2), .ix (.var 1) (.bin .Add (.var 2) (.cst (.int 1)))]])) (.sl (.var 1) [.bin .Add (.var 2) (.cst (.int 2))] [])),
    .set false 0 (.bin .Add (.bin .FloorDiv (.var 0) (.cst (.int 7))) (.cst (.int 1)))],
  .ret (.ix (.var 1) (.cst (.int 0)))], none⟩
def d__law_held : Df := ⟨2, ["_law_found", "_law_due"],
  [.ret (.and (.isi (.var 0) .bool) (.cmp .Eq (.var 0) (.var 1)))], none⟩
def d_law : Df := ⟨1, ["_law_script", "_law_words_here", "_law_rows", "_law_cell", "_law_leaves", "_law_paper", "_law_names", "_law_kind", "_law_one", "_law_other", "_law_lacking", "_law_equal", "_law_k", "_law_leaf_here"],
  [.set false 1 (.call 2 [.call 1 [.var 0, .cst (.int 0)], .cst (.int 3)]),
  .set false 2 (.lc (.call 3 [.var 3, .var 1]) (.one 3) (.sl (.var 0) [.cst (.int 3)] [.cst (.int 27)]) []),
  .set false 3 (.bin .Mod (.call 1 [.var 0, .cst (.int 1)]) (.cst (.int 2147483647))),
  .set false 4 (.lc (.call 5 [.bin .Mod (.bin .Mult (.var 3) (.bin .Add (.bin .Mult (.var 12) (.var 12)) (.cst (.int 1)))) (.cst (.int 2147483647)), .var 2, .var 1]) (.one 12) (.rng [.bin .Add (.cst (.int 1)) (.bin .Mod (.bin .FloorDiv (.var 3) (.cst (.int 5))) (.cst (.int 8)))]) []),
  .unp (.many [7, 8, 9, 10, 11]) (.call 7 [.bin .Mod (.call 1 [.var 0, .cst (.int 2)]) (.cst (.int 2147483647)), .var 4]),
  .set true 5 (.blt .list [.var 2]),
  .ite (.or (.not (.call 8 [.call 0 [.var 7, .var 8, .var 9, .var 5], .and (.var 11) (.cmp .Eq (.var 10) (.lst []))])) (.cmp .NotEq (.var 5) (.var 2)))
    [.ret (.cst (.bl false))]
    [],
  .ext 5 (.var 10),
  .ite (.not (.call 8 [.call 0 [.var 7, .var 8, .var 9, .var 5], .var 11]))
    [.ret (.cst (.bl false))]
    [],
  .set false 6 (.lc (.var 13) (.one 13) (.var 4) [.cmp .Eq (.ix (.ix (.var 13) (.cst (.int 0))) (.cst (.int 0))) (.cst (.str "name"))]),
  .clr 5,
  .ret (.call 8 [.call 0 [.var 7, .var 8, .var 9, .var 5], .and (.var 11) (.cmp .Eq (.var 6) (.lst []))])], none⟩
def T : List Df := [d_tied, d__law_cell_at, d__law_words, d__law_row, d__law_near, d__law_leaf, d__law_both, d__law_tree, d__law_held, d_law]
def rows : List Row := [⟨"tied", ["kind", "one", "other", "paper"], top 1⟩, ⟨"_law_cell_at", ["_law_script", "_law_k"], top 3⟩, ⟨"_law_words", ["_law_cell", "_law_many"], top 4⟩, ⟨"_law_row", ["_law_cell", "_law_words_here"], top 5⟩, ⟨"_law_near", ["_law_cell", "_law_row_here", "_law_words_here"], top 6⟩, ⟨"_law_leaf", ["_law_cell", "_law_rows", "_law_words_here"], top 7⟩, ⟨"_law_both", ["_law_one", "_law_other"], top 8⟩, ⟨"_law_tree", ["_law_cell", "_law_leaves"], top 9⟩, ⟨"_law_held", ["_law_found", "_law_due"], top 10⟩, ⟨"law", ["_law_script"], top 11⟩]
def fs : List (Str × (Nat × Nat)) := [("tied", (0, 4)), ("_law_cell_at", (1, 2)), ("_law_words", (2, 2)), ("_law_row", (3, 2)), ("_law_near", (4, 3)), ("_law_leaf", (5, 3)), ("_law_both", (6, 2)), ("_law_tree", (7, 2)), ("_law_held", (8, 2)), ("law", (9, 1))]
def os : List (Str × (Nat × Nat × Nat)) := []
def bs : List Str := ["bool", "int", "isinstance", "len", "list", "range"]
def glo : List (Str × R) := []
def xs : List (Str × Nat) := []
def subs : List ((Nat × Nat) × Bool) := []
def M : Mn := ⟨glo, subT subs⟩
theorem tb : tabB T rows fs os bs xs = true := by decide +kernel
theorem fo : fsOk T rows fs os = true := by decide +kernel

inductive Ot where
  | i (a : Int) | p (a b : Int)
  deriving DecidableEq
structure Rw where
  w : Str
  a : Int
  o : Ot
  deriving DecidableEq
def Ot.d : Ot → D
  | .i a => .int a
  | .p a b => .tup [.int a, .int b]
def Rw.d (r : Rw) : D := .tup [.str r.w, .int r.a, r.o.d]
theorem ot_deq (x y : Ot) : deq x.d y.d = decide (x = y) := by
  rw [Bool.eq_iff_iff]
  cases x <;> cases y <;> simp [Ot.d, deq, deqs]
theorem rw_deq (x y : Rw) : deq x.d y.d = decide (x = y) := by
  obtain ⟨w, a, o⟩ := x
  obtain ⟨w', a', o'⟩ := y
  simp only [Rw.d, deq, deqs, ot_deq, Rw.mk.injEq, Bool.and_true]
  by_cases h1 : w = w' <;> by_cases h2 : a = a' <;> by_cases h3 : o = o' <;> simp [h1, h2, h3]
theorem ot_no (x : Ot) : noD x.d = true ∧ dep x.d ≤ 1 := by
  cases x <;> simp [Ot.d, noD, noDs, dep, deps]
theorem rw_no (x : Rw) : noD x.d = true ∧ dep x.d ≤ 2 := by
  have := ot_no x.o
  simp [Rw.d, noD, noDs, dep, deps, this.1]
  omega
theorem rws_no : ∀ l : List Rw, noDs (l.map Rw.d) = true ∧ deps (l.map Rw.d) ≤ 2
  | [] => ⟨rfl, by simp [deps]⟩
  | r :: l => by
    have a := rw_no r
    have b := rws_no l
    simp [noDs, deps, a.1, b.1]
    omega
theorem inD_rw (p : Rw) : ∀ l : List Rw, inD p.d (l.map Rw.d) = l.contains p
  | [] => rfl
  | r :: l => by
    have ih := inD_rw p l
    simp only [inD, List.map_cons, List.any_cons, rw_deq, List.contains_cons] at ih ⊢
    rw [ih]
    congr 1
    by_cases h : r = p
    · subst h; simp
    · simp [h, Ne.symm h]
inductive Tr where
  | num (m a b : Int) | row (r : Rw) (k : Bool) | pr (x y : Tr)
def Tr.kind : Tr → D
  | .num m _ _ => .tup [.str "num", .int m]
  | .row r _ => .tup [.str "name", .str "", .str r.w]
  | .pr x y => .tup [.str "pair", x.kind, y.kind]
def Tr.one : Tr → D
  | .num _ a _ => .int a
  | .row r _ => .int r.a
  | .pr x y => .tup [x.one, y.one]
def Tr.oth : Tr → D
  | .num _ _ b => .int b
  | .row r _ => r.o.d
  | .pr x y => .tup [x.oth, y.oth]
def Tr.lack : Tr → List Rw
  | .num _ _ _ => []
  | .row r k => if k then [r] else []
  | .pr x y => x.lack ++ y.lack
def Tr.eq : Tr → Bool
  | .num _ a b => a == b
  | .row _ _ => true
  | .pr x y => x.eq && y.eq
def Tr.d (t : Tr) : D := .tup [t.kind, t.one, t.oth, .lst (t.lack.map Rw.d), .bl t.eq]
def Tr.dp : Tr → Nat
  | .pr x y => max x.dp y.dp + 1
  | _ => 1
def Tr.lv : Tr → Nat
  | .pr x y => x.lv + y.lv
  | _ => 1
def Tr.ls : Tr → List Tr
  | .pr x y => x.ls ++ y.ls
  | t => [t]
def Tr.tied (p : List Rw) : Tr → Bool
  | .num _ a b => a == b
  | .row r _ => p.contains r
  | .pr x y => x.tied p && y.tied p
def Tr.isRow : Tr → Bool
  | .row _ _ => true
  | _ => false
theorem emp_app {α : Type} (a b : List α) : (a ++ b).isEmpty = (a.isEmpty && b.isEmpty) := by cases a <;> rfl
/-- the leaves know what the paper lacks -/
def Tr.good (rows : List Rw) : Tr → Prop
  | .num _ _ _ => True
  | .row r k => k = !rows.contains r
  | .pr x y => x.good rows ∧ y.good rows
theorem Tr.tied_rows {rows : List Rw} : ∀ {t : Tr}, t.good rows → t.tied rows = (t.eq && t.lack.isEmpty)
  | .num _ a b, _ => by simp [Tr.tied, Tr.eq, Tr.lack]
  | .row r k, h => by
    simp only [Tr.good] at h
    subst h
    simp only [Tr.tied, Tr.eq, Tr.lack]
    cases rows.contains r <;> rfl
  | .pr x y, h => by
    simp only [Tr.tied, Tr.eq, Tr.lack, tied_rows h.1, tied_rows h.2, emp_app]
    cases x.eq <;> cases y.eq <;> cases x.lack.isEmpty <;> rfl
theorem Tr.tied_all {rows p : List Rw} (hr : ∀ r ∈ rows, r ∈ p) : ∀ {t : Tr}, t.good rows → (∀ r ∈ t.lack, r ∈ p) → t.tied p = t.eq
  | .num _ a b, _, _ => rfl
  | .row r k, h, hl => by
    simp only [Tr.good] at h
    subst h
    simp only [Tr.tied, Tr.eq, List.contains_iff_mem]
    cases hc : rows.contains r
    · exact hl r (by simp only [Tr.lack, hc]; exact List.mem_singleton.mpr rfl)
    · exact hr r (by simpa using hc)
  | .pr x y, h, hl => by
    simp only [Tr.lack, List.mem_append] at hl
    simp only [Tr.tied, Tr.eq, tied_all hr h.1 (fun r z => hl r (.inl z)), tied_all hr h.2 (fun r z => hl r (.inr z))]
theorem Tr.tied_nil : ∀ t : Tr, t.tied [] = (t.eq && (t.ls.filter Tr.isRow).isEmpty)
  | .num _ a b => by simp [Tr.tied, Tr.eq, Tr.ls, Tr.isRow]
  | .row r k => by simp [Tr.tied, Tr.eq, Tr.ls, Tr.isRow]
  | .pr x y => by
    simp only [Tr.tied, Tr.eq, Tr.ls, tied_nil x, tied_nil y, List.filter_append, emp_app]
    cases x.eq <;> cases y.eq <;> cases (x.ls.filter Tr.isRow).isEmpty <;> rfl
theorem Tr.dp_le : ∀ t : Tr, t.dp ≤ t.lv ∧ 1 ≤ t.lv
  | .num _ _ _ => by simp [Tr.dp, Tr.lv]
  | .row _ _ => by simp [Tr.dp, Tr.lv]
  | .pr x y => by
    have a := dp_le x
    have b := dp_le y
    simp only [Tr.dp, Tr.lv]
    omega
theorem in_rw (r : Rw) (p : List Rw) : cpIn (.val r.d) (.bor (.lst (p.map Rw.d))) = .ok (.val (.bl (p.contains r))) := by
  have e : eqOk r.d (.lst (p.map Rw.d)) = true := by
    have a := rw_no r
    have b := rws_no p
    simp [eqOk, noD, dep, a.1, b.1]
    omega
  rw [← inD_rw]
  simp only [cpIn, opIn, R.d, e, if_true]
  rfl
theorem tied_eq : ∀ (t : Tr) (n : Nat) (p : List Rw), t.dp ≤ n → rn T M n 0 [.val t.kind, .val t.one, .val t.oth, .bor (.lst (p.map Rw.d))] = .ok (.val (.bl (t.tied p)))
  | t, 0, p, h => by cases t <;> simp [Tr.dp] at h
  | .num m a b, n + 1, p, _ => by
    rw [rn_at (F := d_tied) rfl]
    simp only [dn_get1, dn_dct0, dn_din, ds_dput, dk_s, dk_i, dk_t0, dk_t1, dk_t2, dk_t3, sDput_k, dputA_d, dputC_k, eDin_k, din_v, din_o, din_b, ain_s, anin_s, dinC_t, dinC_f, ix_dv, ix_do, ix_db, ixC_k, getO_some, getO_none, getC_k, eGet1_k, eGet2_k, get1_v, get1_o, get1_b, get2_v, get2_o, get2_b, runD, runO, st0, run_rn, runO_rn, fin_nx, fin_rt, fin_ex, denB_nil, denB_cons, dens, dn_var, dn_cst, dn_glo, dn_tup, dn_lst, dn_and, dn_or, dn_not, dn_neg, dn_bin, dn_cmp, dn_chn, dn_ite, dn_ix, dn_sl, dn_blt, dn_isi, dn_join, dn_get2, dn_call, dn_rng, dn_lc, ds_pass, ds_brk, ds_cnt, ds_drop, ds_ret, ds_retN, ds_retV, ds_set, ds_unp, ds_ite, ds_fore, ds_whl, ds_app, ds_ext, ds_clr, ds_frz, ds_lend, ds_callO, ds_raise, ds_tryM, denL, List.zip_cons_cons, List.zip_nil_left, List.zip_nil_right, sTry_k, tK_nx, tK_rt, tK_bk, tK_ct, tK_ex, catch_nil, catch_cons, caK_t, caK_f, noX_nx, noX_rt, noX_bk, noX_ct, oSeq_k, oK_nx, oK_rt, oK_bk, oK_ct, oK_ex, oK_st, oB_ok, oB_exc, Res.bind_ok, Res.bind_exc, Res.bind_stuck, sSet, sIf_k, oIf_t, oIf_f, sRet, sRetV, sRetN, sDrop, sFrz, sApp_k, appK_v, appK_o, sExt_k, extK_v, extK_o, sClr, onL, sLend, sCallO, onO, oBs_k, callO_k, cK_s, bK_nx, bK_rt, backO, argO, Option.map_some, sUnp_k, unpK_v, setAll, vals, sFor_k, forK_ok, whK_t, whK_f, whN_nx, whN_ct, whN_bk, whN_rt, whN_ex, eVar, eArgs_nil, eArgs_cons, eTup_k, eLst_k, tupK_s, lstK_s, frozs_nil, frozs_cons, froK_s, froz_v, froz_o, eAnd_k, eOr_k, eNot_k, eIte_k, andK_t, andK_f, orK_t, orK_f, iteK_t, iteK_f, notK_b, eNeg, neg_i, eBin, bin_add, bin_sub, bin_mul, bin_div, bin_mod, bin_pow, add_i, add_s, add_oo, add_ov, add_vo, add_vv, sub_i, mul_r, mul_l, mul_s, mul_o, div_p, mod_p, pow_p, eCmp, c_eq, c_ne, c_lt, c_le, c_gt, c_ge, c_is, c_in, c_nin, eq_ii, eq_ss, eq_bb, ne_ii, ne_ss, ne_bb, lt_ii, le_ii, gt_ii, ge_ii, in_ss, nin_ss, eIx, optR_some, ix_lv, ix_lo, ix_lb, ix_tv, ix_tb, ix_s, eSl_k, sl_s, sl_lv, sl_lo, sl_lb, sl_tv, part_none, part_some, pK_i, eBlt_k, len_s, len_lv, len_lo, len_lb, len_tv, len_tb, str_p, int_i, int_b, list_lv, list_lo, list_lb, list_tv, tuple_lv, tuple_lo, tuple_lb, tuple_tv, all_o, any_o, sum_o, min_i, max_i, eIsi_k, isi_bb, isi_ii, isi_bi, isi_ss, isi_st, isi_tt, isi_ts, isi_it, isi_ti, isi_si, isi_ll, isi_lb, isi_lo, eCall_k, arg_v, arg_o, arg_b, eJoin_k, joinX_s, join_o, joinK_s, eGlo, setR_f, setR_fo, setR_t, eSeqX_k, eSeq_k, it_lv, it_lo, it_tv, it_s, id_lv, id_lo, id_lb, id_tv, id_tb, id_s, eRngV_k, rng_1, rng_2, eLc_k, lcK_ok, ofD, Bt.fn, Ty.T, List.map_cons, List.map_nil, List.head?_cons, List.head?_nil, List.length_cons, List.length_nil, List.cons_append, List.nil_append, List.replicate_succ, List.replicate_zero, List.getElem?_cons_zero, List.getElem?_cons_succ, List.set_cons_zero, List.set_cons_succ, Nat.reduceSub, Nat.reduceAdd, Nat.zero_add, if_true, Bool.false_eq_true, if_false, Bool.and_true, Bool.true_and, Nat.zero_le, decide_true, Bool.or_true, Bool.true_or, decide_false, Int.reduceLT, Int.reduceLE, Int.reduceMul, Int.reduceAdd, Int.reduceSub, Int.reduceNeg, Int.reduceToNat, Int.reduceMod, Int.reduceDiv, Nat.reduceLeDiff, Nat.reduceLT, Bool.not_true, Bool.not_false, Bool.and_self, beq_self_eq_true, Int.reducePow, Nat.reducePow, Int.reduceBEq, d_tied, Tr.kind, Tr.one, Tr.oth, Tr.tied, atI0]
  | .row r k, n + 1, p, _ => by
    have z3 : (3 : Nat) ≤ LIM := by decide
    have q := in_rw r p
    simp only [Rw.d] at q
    rw [rn_at (F := d_tied) rfl]
    simp only [dn_get1, dn_dct0, dn_din, ds_dput, dk_s, dk_i, dk_t0, dk_t1, dk_t2, dk_t3, sDput_k, dputA_d, dputC_k, eDin_k, din_v, din_o, din_b, ain_s, anin_s, dinC_t, dinC_f, ix_dv, ix_do, ix_db, ixC_k, getO_some, getO_none, getC_k, eGet1_k, eGet2_k, get1_v, get1_o, get1_b, get2_v, get2_o, get2_b, runD, runO, st0, run_rn, runO_rn, fin_nx, fin_rt, fin_ex, denB_nil, denB_cons, dens, dn_var, dn_cst, dn_glo, dn_tup, dn_lst, dn_and, dn_or, dn_not, dn_neg, dn_bin, dn_cmp, dn_chn, dn_ite, dn_ix, dn_sl, dn_blt, dn_isi, dn_join, dn_get2, dn_call, dn_rng, dn_lc, ds_pass, ds_brk, ds_cnt, ds_drop, ds_ret, ds_retN, ds_retV, ds_set, ds_unp, ds_ite, ds_fore, ds_whl, ds_app, ds_ext, ds_clr, ds_frz, ds_lend, ds_callO, ds_raise, ds_tryM, denL, List.zip_cons_cons, List.zip_nil_left, List.zip_nil_right, sTry_k, tK_nx, tK_rt, tK_bk, tK_ct, tK_ex, catch_nil, catch_cons, caK_t, caK_f, noX_nx, noX_rt, noX_bk, noX_ct, oSeq_k, oK_nx, oK_rt, oK_bk, oK_ct, oK_ex, oK_st, oB_ok, oB_exc, Res.bind_ok, Res.bind_exc, Res.bind_stuck, sSet, sIf_k, oIf_t, oIf_f, sRet, sRetV, sRetN, sDrop, sFrz, sApp_k, appK_v, appK_o, sExt_k, extK_v, extK_o, sClr, onL, sLend, sCallO, onO, oBs_k, callO_k, cK_s, bK_nx, bK_rt, backO, argO, Option.map_some, sUnp_k, unpK_v, setAll, vals, sFor_k, forK_ok, whK_t, whK_f, whN_nx, whN_ct, whN_bk, whN_rt, whN_ex, eVar, eArgs_nil, eArgs_cons, eTup_k, eLst_k, tupK_s, lstK_s, frozs_nil, frozs_cons, froK_s, froz_v, froz_o, eAnd_k, eOr_k, eNot_k, eIte_k, andK_t, andK_f, orK_t, orK_f, iteK_t, iteK_f, notK_b, eNeg, neg_i, eBin, bin_add, bin_sub, bin_mul, bin_div, bin_mod, bin_pow, add_i, add_s, add_oo, add_ov, add_vo, add_vv, sub_i, mul_r, mul_l, mul_s, mul_o, div_p, mod_p, pow_p, eCmp, c_eq, c_ne, c_lt, c_le, c_gt, c_ge, c_is, c_in, c_nin, eq_ii, eq_ss, eq_bb, ne_ii, ne_ss, ne_bb, lt_ii, le_ii, gt_ii, ge_ii, in_ss, nin_ss, eIx, optR_some, ix_lv, ix_lo, ix_lb, ix_tv, ix_tb, ix_s, eSl_k, sl_s, sl_lv, sl_lo, sl_lb, sl_tv, part_none, part_some, pK_i, eBlt_k, len_s, len_lv, len_lo, len_lb, len_tv, len_tb, str_p, int_i, int_b, list_lv, list_lo, list_lb, list_tv, tuple_lv, tuple_lo, tuple_lb, tuple_tv, all_o, any_o, sum_o, min_i, max_i, eIsi_k, isi_bb, isi_ii, isi_bi, isi_ss, isi_st, isi_tt, isi_ts, isi_it, isi_ti, isi_si, isi_ll, isi_lb, isi_lo, eCall_k, arg_v, arg_o, arg_b, eJoin_k, joinX_s, join_o, joinK_s, eGlo, setR_f, setR_fo, setR_t, eSeqX_k, eSeq_k, it_lv, it_lo, it_tv, it_s, id_lv, id_lo, id_lb, id_tv, id_tb, id_s, eRngV_k, rng_1, rng_2, eLc_k, lcK_ok, ofD, Bt.fn, Ty.T, List.map_cons, List.map_nil, List.head?_cons, List.head?_nil, List.length_cons, List.length_nil, List.cons_append, List.nil_append, List.replicate_succ, List.replicate_zero, List.getElem?_cons_zero, List.getElem?_cons_succ, List.set_cons_zero, List.set_cons_succ, Nat.reduceSub, Nat.reduceAdd, Nat.zero_add, if_true, Bool.false_eq_true, if_false, Bool.and_true, Bool.true_and, Nat.zero_le, decide_true, Bool.or_true, Bool.true_or, decide_false, Int.reduceLT, Int.reduceLE, Int.reduceMul, Int.reduceAdd, Int.reduceSub, Int.reduceNeg, Int.reduceToNat, Int.reduceMod, Int.reduceDiv, Nat.reduceLeDiff, Nat.reduceLT, Bool.not_true, Bool.not_false, Bool.and_self, beq_self_eq_true, Int.reducePow, Nat.reducePow, Int.reduceBEq, d_tied, Tr.kind, Tr.one, Tr.oth, Tr.tied, atI0, atI2, w_an, w_ap, z3, opAnyIn, isDct, R.d, q]
  | .pr x y, n + 1, p, h => by
    simp only [Tr.dp] at h
    have e1 := tied_eq x n p (by omega)
    have e2 := tied_eq y n p (by omega)
    rw [rn_at (F := d_tied) rfl]
    simp only [dn_get1, dn_dct0, dn_din, ds_dput, dk_s, dk_i, dk_t0, dk_t1, dk_t2, dk_t3, sDput_k, dputA_d, dputC_k, eDin_k, din_v, din_o, din_b, ain_s, anin_s, dinC_t, dinC_f, ix_dv, ix_do, ix_db, ixC_k, getO_some, getO_none, getC_k, eGet1_k, eGet2_k, get1_v, get1_o, get1_b, get2_v, get2_o, get2_b, runD, runO, st0, run_rn, runO_rn, fin_nx, fin_rt, fin_ex, denB_nil, denB_cons, dens, dn_var, dn_cst, dn_glo, dn_tup, dn_lst, dn_and, dn_or, dn_not, dn_neg, dn_bin, dn_cmp, dn_chn, dn_ite, dn_ix, dn_sl, dn_blt, dn_isi, dn_join, dn_get2, dn_call, dn_rng, dn_lc, ds_pass, ds_brk, ds_cnt, ds_drop, ds_ret, ds_retN, ds_retV, ds_set, ds_unp, ds_ite, ds_fore, ds_whl, ds_app, ds_ext, ds_clr, ds_frz, ds_lend, ds_callO, ds_raise, ds_tryM, denL, List.zip_cons_cons, List.zip_nil_left, List.zip_nil_right, sTry_k, tK_nx, tK_rt, tK_bk, tK_ct, tK_ex, catch_nil, catch_cons, caK_t, caK_f, noX_nx, noX_rt, noX_bk, noX_ct, oSeq_k, oK_nx, oK_rt, oK_bk, oK_ct, oK_ex, oK_st, oB_ok, oB_exc, Res.bind_ok, Res.bind_exc, Res.bind_stuck, sSet, sIf_k, oIf_t, oIf_f, sRet, sRetV, sRetN, sDrop, sFrz, sApp_k, appK_v, appK_o, sExt_k, extK_v, extK_o, sClr, onL, sLend, sCallO, onO, oBs_k, callO_k, cK_s, bK_nx, bK_rt, backO, argO, Option.map_some, sUnp_k, unpK_v, setAll, vals, sFor_k, forK_ok, whK_t, whK_f, whN_nx, whN_ct, whN_bk, whN_rt, whN_ex, eVar, eArgs_nil, eArgs_cons, eTup_k, eLst_k, tupK_s, lstK_s, frozs_nil, frozs_cons, froK_s, froz_v, froz_o, eAnd_k, eOr_k, eNot_k, eIte_k, andK_t, andK_f, orK_t, orK_f, iteK_t, iteK_f, notK_b, eNeg, neg_i, eBin, bin_add, bin_sub, bin_mul, bin_div, bin_mod, bin_pow, add_i, add_s, add_oo, add_ov, add_vo, add_vv, sub_i, mul_r, mul_l, mul_s, mul_o, div_p, mod_p, pow_p, eCmp, c_eq, c_ne, c_lt, c_le, c_gt, c_ge, c_is, c_in, c_nin, eq_ii, eq_ss, eq_bb, ne_ii, ne_ss, ne_bb, lt_ii, le_ii, gt_ii, ge_ii, in_ss, nin_ss, eIx, optR_some, ix_lv, ix_lo, ix_lb, ix_tv, ix_tb, ix_s, eSl_k, sl_s, sl_lv, sl_lo, sl_lb, sl_tv, part_none, part_some, pK_i, eBlt_k, len_s, len_lv, len_lo, len_lb, len_tv, len_tb, str_p, int_i, int_b, list_lv, list_lo, list_lb, list_tv, tuple_lv, tuple_lo, tuple_lb, tuple_tv, all_o, any_o, sum_o, min_i, max_i, eIsi_k, isi_bb, isi_ii, isi_bi, isi_ss, isi_st, isi_tt, isi_ts, isi_it, isi_ti, isi_si, isi_ll, isi_lb, isi_lo, eCall_k, arg_v, arg_o, arg_b, eJoin_k, joinX_s, join_o, joinK_s, eGlo, setR_f, setR_fo, setR_t, eSeqX_k, eSeq_k, it_lv, it_lo, it_tv, it_s, id_lv, id_lo, id_lb, id_tv, id_tb, id_s, eRngV_k, rng_1, rng_2, eLc_k, lcK_ok, ofD, Bt.fn, Ty.T, List.map_cons, List.map_nil, List.head?_cons, List.head?_nil, List.length_cons, List.length_nil, List.cons_append, List.nil_append, List.replicate_succ, List.replicate_zero, List.getElem?_cons_zero, List.getElem?_cons_succ, List.set_cons_zero, List.set_cons_succ, Nat.reduceSub, Nat.reduceAdd, Nat.zero_add, if_true, Bool.false_eq_true, if_false, Bool.and_true, Bool.true_and, Nat.zero_le, decide_true, Bool.or_true, Bool.true_or, decide_false, Int.reduceLT, Int.reduceLE, Int.reduceMul, Int.reduceAdd, Int.reduceSub, Int.reduceNeg, Int.reduceToNat, Int.reduceMod, Int.reduceDiv, Nat.reduceLeDiff, Nat.reduceLT, Bool.not_true, Bool.not_false, Bool.and_self, beq_self_eq_true, Int.reducePow, Nat.reducePow, Int.reduceBEq, d_tied, Tr.kind, Tr.one, Tr.oth, Tr.tied, atI0, atI1, atI2, w_pn, e1, e2]
    cases x.tied p <;> simp only [dn_get1, dn_dct0, dn_din, ds_dput, dk_s, dk_i, dk_t0, dk_t1, dk_t2, dk_t3, sDput_k, dputA_d, dputC_k, eDin_k, din_v, din_o, din_b, ain_s, anin_s, dinC_t, dinC_f, ix_dv, ix_do, ix_db, ixC_k, getO_some, getO_none, getC_k, eGet1_k, eGet2_k, get1_v, get1_o, get1_b, get2_v, get2_o, get2_b, runD, runO, st0, run_rn, runO_rn, fin_nx, fin_rt, fin_ex, denB_nil, denB_cons, dens, dn_var, dn_cst, dn_glo, dn_tup, dn_lst, dn_and, dn_or, dn_not, dn_neg, dn_bin, dn_cmp, dn_chn, dn_ite, dn_ix, dn_sl, dn_blt, dn_isi, dn_join, dn_get2, dn_call, dn_rng, dn_lc, ds_pass, ds_brk, ds_cnt, ds_drop, ds_ret, ds_retN, ds_retV, ds_set, ds_unp, ds_ite, ds_fore, ds_whl, ds_app, ds_ext, ds_clr, ds_frz, ds_lend, ds_callO, ds_raise, ds_tryM, denL, List.zip_cons_cons, List.zip_nil_left, List.zip_nil_right, sTry_k, tK_nx, tK_rt, tK_bk, tK_ct, tK_ex, catch_nil, catch_cons, caK_t, caK_f, noX_nx, noX_rt, noX_bk, noX_ct, oSeq_k, oK_nx, oK_rt, oK_bk, oK_ct, oK_ex, oK_st, oB_ok, oB_exc, Res.bind_ok, Res.bind_exc, Res.bind_stuck, sSet, sIf_k, oIf_t, oIf_f, sRet, sRetV, sRetN, sDrop, sFrz, sApp_k, appK_v, appK_o, sExt_k, extK_v, extK_o, sClr, onL, sLend, sCallO, onO, oBs_k, callO_k, cK_s, bK_nx, bK_rt, backO, argO, Option.map_some, sUnp_k, unpK_v, setAll, vals, sFor_k, forK_ok, whK_t, whK_f, whN_nx, whN_ct, whN_bk, whN_rt, whN_ex, eVar, eArgs_nil, eArgs_cons, eTup_k, eLst_k, tupK_s, lstK_s, frozs_nil, frozs_cons, froK_s, froz_v, froz_o, eAnd_k, eOr_k, eNot_k, eIte_k, andK_t, andK_f, orK_t, orK_f, iteK_t, iteK_f, notK_b, eNeg, neg_i, eBin, bin_add, bin_sub, bin_mul, bin_div, bin_mod, bin_pow, add_i, add_s, add_oo, add_ov, add_vo, add_vv, sub_i, mul_r, mul_l, mul_s, mul_o, div_p, mod_p, pow_p, eCmp, c_eq, c_ne, c_lt, c_le, c_gt, c_ge, c_is, c_in, c_nin, eq_ii, eq_ss, eq_bb, ne_ii, ne_ss, ne_bb, lt_ii, le_ii, gt_ii, ge_ii, in_ss, nin_ss, eIx, optR_some, ix_lv, ix_lo, ix_lb, ix_tv, ix_tb, ix_s, eSl_k, sl_s, sl_lv, sl_lo, sl_lb, sl_tv, part_none, part_some, pK_i, eBlt_k, len_s, len_lv, len_lo, len_lb, len_tv, len_tb, str_p, int_i, int_b, list_lv, list_lo, list_lb, list_tv, tuple_lv, tuple_lo, tuple_lb, tuple_tv, all_o, any_o, sum_o, min_i, max_i, eIsi_k, isi_bb, isi_ii, isi_bi, isi_ss, isi_st, isi_tt, isi_ts, isi_it, isi_ti, isi_si, isi_ll, isi_lb, isi_lo, eCall_k, arg_v, arg_o, arg_b, eJoin_k, joinX_s, join_o, joinK_s, eGlo, setR_f, setR_fo, setR_t, eSeqX_k, eSeq_k, it_lv, it_lo, it_tv, it_s, id_lv, id_lo, id_lb, id_tv, id_tb, id_s, eRngV_k, rng_1, rng_2, eLc_k, lcK_ok, ofD, Bt.fn, Ty.T, List.map_cons, List.map_nil, List.head?_cons, List.head?_nil, List.length_cons, List.length_nil, List.cons_append, List.nil_append, List.replicate_succ, List.replicate_zero, List.getElem?_cons_zero, List.getElem?_cons_succ, List.set_cons_zero, List.set_cons_succ, Nat.reduceSub, Nat.reduceAdd, Nat.zero_add, if_true, Bool.false_eq_true, if_false, Bool.and_true, Bool.true_and, Nat.zero_le, decide_true, Bool.or_true, Bool.true_or, decide_false, Int.reduceLT, Int.reduceLE, Int.reduceMul, Int.reduceAdd, Int.reduceSub, Int.reduceNeg, Int.reduceToNat, Int.reduceMod, Int.reduceDiv, Nat.reduceLeDiff, Nat.reduceLT, Bool.not_true, Bool.not_false, Bool.and_self, beq_self_eq_true, Int.reducePow, Nat.reducePow, Int.reduceBEq, Bool.false_and, atI0, atI1, atI2, e2]
theorem h0 : T[0]? = some d_tied := rfl
/-! ### the drawn things -/
theorem cell_eq (n : Nat) (s : List Int) (k : Int) (h0 : 0 ≤ k) (h1 : k ≤ 1000) : ∃ c : Int, rn T M (n + 1) 1 [.bor (.lst (s.map D.int)), .val (.int k)] = .ok (.val (.int c)) := by
  have k1 : (-18446744073709551616 : Int) < k := by omega
  have k2 : k < 18446744073709551616 := by omega
  rw [rn_at (F := d__law_cell_at) rfl]
  by_cases h : k < s.length
  · have e := atS h0 h
    have hd := decide_eq_true h
    exact ⟨_, by simp only [dn_get1, dn_dct0, dn_din, ds_dput, dk_s, dk_i, dk_t0, dk_t1, dk_t2, dk_t3, sDput_k, dputA_d, dputC_k, eDin_k, din_v, din_o, din_b, ain_s, anin_s, dinC_t, dinC_f, ix_dv, ix_do, ix_db, ixC_k, getO_some, getO_none, getC_k, eGet1_k, eGet2_k, get1_v, get1_o, get1_b, get2_v, get2_o, get2_b, runD, runO, st0, run_rn, runO_rn, fin_nx, fin_rt, fin_ex, denB_nil, denB_cons, dens, dn_var, dn_cst, dn_glo, dn_tup, dn_lst, dn_and, dn_or, dn_not, dn_neg, dn_bin, dn_cmp, dn_chn, dn_ite, dn_ix, dn_sl, dn_blt, dn_isi, dn_join, dn_get2, dn_call, dn_rng, dn_lc, ds_pass, ds_brk, ds_cnt, ds_drop, ds_ret, ds_retN, ds_retV, ds_set, ds_unp, ds_ite, ds_fore, ds_whl, ds_app, ds_ext, ds_clr, ds_frz, ds_lend, ds_callO, ds_raise, ds_tryM, denL, List.zip_cons_cons, List.zip_nil_left, List.zip_nil_right, sTry_k, tK_nx, tK_rt, tK_bk, tK_ct, tK_ex, catch_nil, catch_cons, caK_t, caK_f, noX_nx, noX_rt, noX_bk, noX_ct, oSeq_k, oK_nx, oK_rt, oK_bk, oK_ct, oK_ex, oK_st, oB_ok, oB_exc, Res.bind_ok, Res.bind_exc, Res.bind_stuck, sSet, sIf_k, oIf_t, oIf_f, sRet, sRetV, sRetN, sDrop, sFrz, sApp_k, appK_v, appK_o, sExt_k, extK_v, extK_o, sClr, onL, sLend, sCallO, onO, oBs_k, callO_k, cK_s, bK_nx, bK_rt, backO, argO, Option.map_some, sUnp_k, unpK_v, setAll, vals, sFor_k, forK_ok, whK_t, whK_f, whN_nx, whN_ct, whN_bk, whN_rt, whN_ex, eVar, eArgs_nil, eArgs_cons, eTup_k, eLst_k, tupK_s, lstK_s, frozs_nil, frozs_cons, froK_s, froz_v, froz_o, eAnd_k, eOr_k, eNot_k, eIte_k, andK_t, andK_f, orK_t, orK_f, iteK_t, iteK_f, notK_b, eNeg, neg_i, eBin, bin_add, bin_sub, bin_mul, bin_div, bin_mod, bin_pow, add_i, add_s, add_oo, add_ov, add_vo, add_vv, sub_i, mul_r, mul_l, mul_s, mul_o, div_p, mod_p, pow_p, eCmp, c_eq, c_ne, c_lt, c_le, c_gt, c_ge, c_is, c_in, c_nin, eq_ii, eq_ss, eq_bb, ne_ii, ne_ss, ne_bb, lt_ii, le_ii, gt_ii, ge_ii, in_ss, nin_ss, eIx, optR_some, ix_lv, ix_lo, ix_lb, ix_tv, ix_tb, ix_s, eSl_k, sl_s, sl_lv, sl_lo, sl_lb, sl_tv, part_none, part_some, pK_i, eBlt_k, len_s, len_lv, len_lo, len_lb, len_tv, len_tb, str_p, int_i, int_b, list_lv, list_lo, list_lb, list_tv, tuple_lv, tuple_lo, tuple_lb, tuple_tv, all_o, any_o, sum_o, min_i, max_i, eIsi_k, isi_bb, isi_ii, isi_bi, isi_ss, isi_st, isi_tt, isi_ts, isi_it, isi_ti, isi_si, isi_ll, isi_lb, isi_lo, eCall_k, arg_v, arg_o, arg_b, eJoin_k, joinX_s, join_o, joinK_s, eGlo, setR_f, setR_fo, setR_t, eSeqX_k, eSeq_k, it_lv, it_lo, it_tv, it_s, id_lv, id_lo, id_lb, id_tv, id_tb, id_s, eRngV_k, rng_1, rng_2, eLc_k, lcK_ok, ofD, Bt.fn, Ty.T, List.map_cons, List.map_nil, List.head?_cons, List.head?_nil, List.length_cons, List.length_nil, List.cons_append, List.nil_append, List.replicate_succ, List.replicate_zero, List.getElem?_cons_zero, List.getElem?_cons_succ, List.set_cons_zero, List.set_cons_succ, Nat.reduceSub, Nat.reduceAdd, Nat.zero_add, if_true, Bool.false_eq_true, if_false, Bool.and_true, Bool.true_and, Nat.zero_le, decide_true, Bool.or_true, Bool.true_or, decide_false, Int.reduceLT, Int.reduceLE, Int.reduceMul, Int.reduceAdd, Int.reduceSub, Int.reduceNeg, Int.reduceToNat, Int.reduceMod, Int.reduceDiv, Nat.reduceLeDiff, Nat.reduceLT, Bool.not_true, Bool.not_false, Bool.and_self, beq_self_eq_true, Int.reducePow, Nat.reducePow, Int.reduceBEq, d__law_cell_at, List.length_map, hd, e]; rfl⟩
  · have hd := decide_eq_false h
    by_cases h2 : 0 < (s.length : Int)
    · have hd2 := decide_eq_true h2
      have e := atS (s := s) (k := k % s.length) (Int.emod_nonneg _ (by omega)) (Int.emod_lt_of_pos _ h2)
      exact ⟨_, by simp only [dn_get1, dn_dct0, dn_din, ds_dput, dk_s, dk_i, dk_t0, dk_t1, dk_t2, dk_t3, sDput_k, dputA_d, dputC_k, eDin_k, din_v, din_o, din_b, ain_s, anin_s, dinC_t, dinC_f, ix_dv, ix_do, ix_db, ixC_k, getO_some, getO_none, getC_k, eGet1_k, eGet2_k, get1_v, get1_o, get1_b, get2_v, get2_o, get2_b, runD, runO, st0, run_rn, runO_rn, fin_nx, fin_rt, fin_ex, denB_nil, denB_cons, dens, dn_var, dn_cst, dn_glo, dn_tup, dn_lst, dn_and, dn_or, dn_not, dn_neg, dn_bin, dn_cmp, dn_chn, dn_ite, dn_ix, dn_sl, dn_blt, dn_isi, dn_join, dn_get2, dn_call, dn_rng, dn_lc, ds_pass, ds_brk, ds_cnt, ds_drop, ds_ret, ds_retN, ds_retV, ds_set, ds_unp, ds_ite, ds_fore, ds_whl, ds_app, ds_ext, ds_clr, ds_frz, ds_lend, ds_callO, ds_raise, ds_tryM, denL, List.zip_cons_cons, List.zip_nil_left, List.zip_nil_right, sTry_k, tK_nx, tK_rt, tK_bk, tK_ct, tK_ex, catch_nil, catch_cons, caK_t, caK_f, noX_nx, noX_rt, noX_bk, noX_ct, oSeq_k, oK_nx, oK_rt, oK_bk, oK_ct, oK_ex, oK_st, oB_ok, oB_exc, Res.bind_ok, Res.bind_exc, Res.bind_stuck, sSet, sIf_k, oIf_t, oIf_f, sRet, sRetV, sRetN, sDrop, sFrz, sApp_k, appK_v, appK_o, sExt_k, extK_v, extK_o, sClr, onL, sLend, sCallO, onO, oBs_k, callO_k, cK_s, bK_nx, bK_rt, backO, argO, Option.map_some, sUnp_k, unpK_v, setAll, vals, sFor_k, forK_ok, whK_t, whK_f, whN_nx, whN_ct, whN_bk, whN_rt, whN_ex, eVar, eArgs_nil, eArgs_cons, eTup_k, eLst_k, tupK_s, lstK_s, frozs_nil, frozs_cons, froK_s, froz_v, froz_o, eAnd_k, eOr_k, eNot_k, eIte_k, andK_t, andK_f, orK_t, orK_f, iteK_t, iteK_f, notK_b, eNeg, neg_i, eBin, bin_add, bin_sub, bin_mul, bin_div, bin_mod, bin_pow, add_i, add_s, add_oo, add_ov, add_vo, add_vv, sub_i, mul_r, mul_l, mul_s, mul_o, div_p, mod_p, pow_p, eCmp, c_eq, c_ne, c_lt, c_le, c_gt, c_ge, c_is, c_in, c_nin, eq_ii, eq_ss, eq_bb, ne_ii, ne_ss, ne_bb, lt_ii, le_ii, gt_ii, ge_ii, in_ss, nin_ss, eIx, optR_some, ix_lv, ix_lo, ix_lb, ix_tv, ix_tb, ix_s, eSl_k, sl_s, sl_lv, sl_lo, sl_lb, sl_tv, part_none, part_some, pK_i, eBlt_k, len_s, len_lv, len_lo, len_lb, len_tv, len_tb, str_p, int_i, int_b, list_lv, list_lo, list_lb, list_tv, tuple_lv, tuple_lo, tuple_lb, tuple_tv, all_o, any_o, sum_o, min_i, max_i, eIsi_k, isi_bb, isi_ii, isi_bi, isi_ss, isi_st, isi_tt, isi_ts, isi_it, isi_ti, isi_si, isi_ll, isi_lb, isi_lo, eCall_k, arg_v, arg_o, arg_b, eJoin_k, joinX_s, join_o, joinK_s, eGlo, setR_f, setR_fo, setR_t, eSeqX_k, eSeq_k, it_lv, it_lo, it_tv, it_s, id_lv, id_lo, id_lb, id_tv, id_tb, id_s, eRngV_k, rng_1, rng_2, eLc_k, lcK_ok, ofD, Bt.fn, Ty.T, List.map_cons, List.map_nil, List.head?_cons, List.head?_nil, List.length_cons, List.length_nil, List.cons_append, List.nil_append, List.replicate_succ, List.replicate_zero, List.getElem?_cons_zero, List.getElem?_cons_succ, List.set_cons_zero, List.set_cons_succ, Nat.reduceSub, Nat.reduceAdd, Nat.zero_add, if_true, Bool.false_eq_true, if_false, Bool.and_true, Bool.true_and, Nat.zero_le, decide_true, Bool.or_true, Bool.true_or, decide_false, Int.reduceLT, Int.reduceLE, Int.reduceMul, Int.reduceAdd, Int.reduceSub, Int.reduceNeg, Int.reduceToNat, Int.reduceMod, Int.reduceDiv, Nat.reduceLeDiff, Nat.reduceLT, Bool.not_true, Bool.not_false, Bool.and_self, beq_self_eq_true, Int.reducePow, Nat.reducePow, Int.reduceBEq, d__law_cell_at, List.length_map, hd, hd2, e, h2, k1, k2]; rfl⟩
    · have hd2 := decide_eq_false h2
      exact ⟨_, by simp only [dn_get1, dn_dct0, dn_din, ds_dput, dk_s, dk_i, dk_t0, dk_t1, dk_t2, dk_t3, sDput_k, dputA_d, dputC_k, eDin_k, din_v, din_o, din_b, ain_s, anin_s, dinC_t, dinC_f, ix_dv, ix_do, ix_db, ixC_k, getO_some, getO_none, getC_k, eGet1_k, eGet2_k, get1_v, get1_o, get1_b, get2_v, get2_o, get2_b, runD, runO, st0, run_rn, runO_rn, fin_nx, fin_rt, fin_ex, denB_nil, denB_cons, dens, dn_var, dn_cst, dn_glo, dn_tup, dn_lst, dn_and, dn_or, dn_not, dn_neg, dn_bin, dn_cmp, dn_chn, dn_ite, dn_ix, dn_sl, dn_blt, dn_isi, dn_join, dn_get2, dn_call, dn_rng, dn_lc, ds_pass, ds_brk, ds_cnt, ds_drop, ds_ret, ds_retN, ds_retV, ds_set, ds_unp, ds_ite, ds_fore, ds_whl, ds_app, ds_ext, ds_clr, ds_frz, ds_lend, ds_callO, ds_raise, ds_tryM, denL, List.zip_cons_cons, List.zip_nil_left, List.zip_nil_right, sTry_k, tK_nx, tK_rt, tK_bk, tK_ct, tK_ex, catch_nil, catch_cons, caK_t, caK_f, noX_nx, noX_rt, noX_bk, noX_ct, oSeq_k, oK_nx, oK_rt, oK_bk, oK_ct, oK_ex, oK_st, oB_ok, oB_exc, Res.bind_ok, Res.bind_exc, Res.bind_stuck, sSet, sIf_k, oIf_t, oIf_f, sRet, sRetV, sRetN, sDrop, sFrz, sApp_k, appK_v, appK_o, sExt_k, extK_v, extK_o, sClr, onL, sLend, sCallO, onO, oBs_k, callO_k, cK_s, bK_nx, bK_rt, backO, argO, Option.map_some, sUnp_k, unpK_v, setAll, vals, sFor_k, forK_ok, whK_t, whK_f, whN_nx, whN_ct, whN_bk, whN_rt, whN_ex, eVar, eArgs_nil, eArgs_cons, eTup_k, eLst_k, tupK_s, lstK_s, frozs_nil, frozs_cons, froK_s, froz_v, froz_o, eAnd_k, eOr_k, eNot_k, eIte_k, andK_t, andK_f, orK_t, orK_f, iteK_t, iteK_f, notK_b, eNeg, neg_i, eBin, bin_add, bin_sub, bin_mul, bin_div, bin_mod, bin_pow, add_i, add_s, add_oo, add_ov, add_vo, add_vv, sub_i, mul_r, mul_l, mul_s, mul_o, div_p, mod_p, pow_p, eCmp, c_eq, c_ne, c_lt, c_le, c_gt, c_ge, c_is, c_in, c_nin, eq_ii, eq_ss, eq_bb, ne_ii, ne_ss, ne_bb, lt_ii, le_ii, gt_ii, ge_ii, in_ss, nin_ss, eIx, optR_some, ix_lv, ix_lo, ix_lb, ix_tv, ix_tb, ix_s, eSl_k, sl_s, sl_lv, sl_lo, sl_lb, sl_tv, part_none, part_some, pK_i, eBlt_k, len_s, len_lv, len_lo, len_lb, len_tv, len_tb, str_p, int_i, int_b, list_lv, list_lo, list_lb, list_tv, tuple_lv, tuple_lo, tuple_lb, tuple_tv, all_o, any_o, sum_o, min_i, max_i, eIsi_k, isi_bb, isi_ii, isi_bi, isi_ss, isi_st, isi_tt, isi_ts, isi_it, isi_ti, isi_si, isi_ll, isi_lb, isi_lo, eCall_k, arg_v, arg_o, arg_b, eJoin_k, joinX_s, join_o, joinK_s, eGlo, setR_f, setR_fo, setR_t, eSeqX_k, eSeq_k, it_lv, it_lo, it_tv, it_s, id_lv, id_lo, id_lb, id_tv, id_tb, id_s, eRngV_k, rng_1, rng_2, eLc_k, lcK_ok, ofD, Bt.fn, Ty.T, List.map_cons, List.map_nil, List.head?_cons, List.head?_nil, List.length_cons, List.length_nil, List.cons_append, List.nil_append, List.replicate_succ, List.replicate_zero, List.getElem?_cons_zero, List.getElem?_cons_succ, List.set_cons_zero, List.set_cons_succ, Nat.reduceSub, Nat.reduceAdd, Nat.zero_add, if_true, Bool.false_eq_true, if_false, Bool.and_true, Bool.true_and, Nat.zero_le, decide_true, Bool.or_true, Bool.true_or, decide_false, Int.reduceLT, Int.reduceLE, Int.reduceMul, Int.reduceAdd, Int.reduceSub, Int.reduceNeg, Int.reduceToNat, Int.reduceMod, Int.reduceDiv, Nat.reduceLeDiff, Nat.reduceLT, Bool.not_true, Bool.not_false, Bool.and_self, beq_self_eq_true, Int.reducePow, Nat.reducePow, Int.reduceBEq, d__law_cell_at, List.length_map, hd, hd2, k1, k2]; rfl⟩
theorem held_eq (n : Nat) (a b : Bool) : rn T M (n + 1) 8 [.val (.bl a), .val (.bl b)] = .ok (.val (.bl (a == b))) := by
  rw [rn_at (F := d__law_held) rfl]
  simp only [dn_get1, dn_dct0, dn_din, ds_dput, dk_s, dk_i, dk_t0, dk_t1, dk_t2, dk_t3, sDput_k, dputA_d, dputC_k, eDin_k, din_v, din_o, din_b, ain_s, anin_s, dinC_t, dinC_f, ix_dv, ix_do, ix_db, ixC_k, getO_some, getO_none, getC_k, eGet1_k, eGet2_k, get1_v, get1_o, get1_b, get2_v, get2_o, get2_b, runD, runO, st0, run_rn, runO_rn, fin_nx, fin_rt, fin_ex, denB_nil, denB_cons, dens, dn_var, dn_cst, dn_glo, dn_tup, dn_lst, dn_and, dn_or, dn_not, dn_neg, dn_bin, dn_cmp, dn_chn, dn_ite, dn_ix, dn_sl, dn_blt, dn_isi, dn_join, dn_get2, dn_call, dn_rng, dn_lc, ds_pass, ds_brk, ds_cnt, ds_drop, ds_ret, ds_retN, ds_retV, ds_set, ds_unp, ds_ite, ds_fore, ds_whl, ds_app, ds_ext, ds_clr, ds_frz, ds_lend, ds_callO, ds_raise, ds_tryM, denL, List.zip_cons_cons, List.zip_nil_left, List.zip_nil_right, sTry_k, tK_nx, tK_rt, tK_bk, tK_ct, tK_ex, catch_nil, catch_cons, caK_t, caK_f, noX_nx, noX_rt, noX_bk, noX_ct, oSeq_k, oK_nx, oK_rt, oK_bk, oK_ct, oK_ex, oK_st, oB_ok, oB_exc, Res.bind_ok, Res.bind_exc, Res.bind_stuck, sSet, sIf_k, oIf_t, oIf_f, sRet, sRetV, sRetN, sDrop, sFrz, sApp_k, appK_v, appK_o, sExt_k, extK_v, extK_o, sClr, onL, sLend, sCallO, onO, oBs_k, callO_k, cK_s, bK_nx, bK_rt, backO, argO, Option.map_some, sUnp_k, unpK_v, setAll, vals, sFor_k, forK_ok, whK_t, whK_f, whN_nx, whN_ct, whN_bk, whN_rt, whN_ex, eVar, eArgs_nil, eArgs_cons, eTup_k, eLst_k, tupK_s, lstK_s, frozs_nil, frozs_cons, froK_s, froz_v, froz_o, eAnd_k, eOr_k, eNot_k, eIte_k, andK_t, andK_f, orK_t, orK_f, iteK_t, iteK_f, notK_b, eNeg, neg_i, eBin, bin_add, bin_sub, bin_mul, bin_div, bin_mod, bin_pow, add_i, add_s, add_oo, add_ov, add_vo, add_vv, sub_i, mul_r, mul_l, mul_s, mul_o, div_p, mod_p, pow_p, eCmp, c_eq, c_ne, c_lt, c_le, c_gt, c_ge, c_is, c_in, c_nin, eq_ii, eq_ss, eq_bb, ne_ii, ne_ss, ne_bb, lt_ii, le_ii, gt_ii, ge_ii, in_ss, nin_ss, eIx, optR_some, ix_lv, ix_lo, ix_lb, ix_tv, ix_tb, ix_s, eSl_k, sl_s, sl_lv, sl_lo, sl_lb, sl_tv, part_none, part_some, pK_i, eBlt_k, len_s, len_lv, len_lo, len_lb, len_tv, len_tb, str_p, int_i, int_b, list_lv, list_lo, list_lb, list_tv, tuple_lv, tuple_lo, tuple_lb, tuple_tv, all_o, any_o, sum_o, min_i, max_i, eIsi_k, isi_bb, isi_ii, isi_bi, isi_ss, isi_st, isi_tt, isi_ts, isi_it, isi_ti, isi_si, isi_ll, isi_lb, isi_lo, eCall_k, arg_v, arg_o, arg_b, eJoin_k, joinX_s, join_o, joinK_s, eGlo, setR_f, setR_fo, setR_t, eSeqX_k, eSeq_k, it_lv, it_lo, it_tv, it_s, id_lv, id_lo, id_lb, id_tv, id_tb, id_s, eRngV_k, rng_1, rng_2, eLc_k, lcK_ok, ofD, Bt.fn, Ty.T, List.map_cons, List.map_nil, List.head?_cons, List.head?_nil, List.length_cons, List.length_nil, List.cons_append, List.nil_append, List.replicate_succ, List.replicate_zero, List.getElem?_cons_zero, List.getElem?_cons_succ, List.set_cons_zero, List.set_cons_succ, Nat.reduceSub, Nat.reduceAdd, Nat.zero_add, if_true, Bool.false_eq_true, if_false, Bool.and_true, Bool.true_and, Nat.zero_le, decide_true, Bool.or_true, Bool.true_or, decide_false, Int.reduceLT, Int.reduceLE, Int.reduceMul, Int.reduceAdd, Int.reduceSub, Int.reduceNeg, Int.reduceToNat, Int.reduceMod, Int.reduceDiv, Nat.reduceLeDiff, Nat.reduceLT, Bool.not_true, Bool.not_false, Bool.and_self, beq_self_eq_true, Int.reducePow, Nat.reducePow, Int.reduceBEq, d__law_held]
theorem both_eq (n : Nat) (x y : Tr) (h : x.lack.length + y.lack.length ≤ 1000) : rn T M (n + 1) 6 [.val x.d, .val y.d] = .ok (.val (Tr.pr x y).d) := by
  have z2 : (2 : Nat) ≤ LIM := by decide
  have z3 : (3 : Nat) ≤ LIM := by decide
  have z5 : (5 : Nat) ≤ LIM := by decide
  have w : x.lack.length + y.lack.length ≤ LIM := Nat.le_trans h (by decide)
  rw [rn_at (F := d__law_both) rfl]
  simp only [dn_get1, dn_dct0, dn_din, ds_dput, dk_s, dk_i, dk_t0, dk_t1, dk_t2, dk_t3, sDput_k, dputA_d, dputC_k, eDin_k, din_v, din_o, din_b, ain_s, anin_s, dinC_t, dinC_f, ix_dv, ix_do, ix_db, ixC_k, getO_some, getO_none, getC_k, eGet1_k, eGet2_k, get1_v, get1_o, get1_b, get2_v, get2_o, get2_b, runD, runO, st0, run_rn, runO_rn, fin_nx, fin_rt, fin_ex, denB_nil, denB_cons, dens, dn_var, dn_cst, dn_glo, dn_tup, dn_lst, dn_and, dn_or, dn_not, dn_neg, dn_bin, dn_cmp, dn_chn, dn_ite, dn_ix, dn_sl, dn_blt, dn_isi, dn_join, dn_get2, dn_call, dn_rng, dn_lc, ds_pass, ds_brk, ds_cnt, ds_drop, ds_ret, ds_retN, ds_retV, ds_set, ds_unp, ds_ite, ds_fore, ds_whl, ds_app, ds_ext, ds_clr, ds_frz, ds_lend, ds_callO, ds_raise, ds_tryM, denL, List.zip_cons_cons, List.zip_nil_left, List.zip_nil_right, sTry_k, tK_nx, tK_rt, tK_bk, tK_ct, tK_ex, catch_nil, catch_cons, caK_t, caK_f, noX_nx, noX_rt, noX_bk, noX_ct, oSeq_k, oK_nx, oK_rt, oK_bk, oK_ct, oK_ex, oK_st, oB_ok, oB_exc, Res.bind_ok, Res.bind_exc, Res.bind_stuck, sSet, sIf_k, oIf_t, oIf_f, sRet, sRetV, sRetN, sDrop, sFrz, sApp_k, appK_v, appK_o, sExt_k, extK_v, extK_o, sClr, onL, sLend, sCallO, onO, oBs_k, callO_k, cK_s, bK_nx, bK_rt, backO, argO, Option.map_some, sUnp_k, unpK_v, setAll, vals, sFor_k, forK_ok, whK_t, whK_f, whN_nx, whN_ct, whN_bk, whN_rt, whN_ex, eVar, eArgs_nil, eArgs_cons, eTup_k, eLst_k, tupK_s, lstK_s, frozs_nil, frozs_cons, froK_s, froz_v, froz_o, eAnd_k, eOr_k, eNot_k, eIte_k, andK_t, andK_f, orK_t, orK_f, iteK_t, iteK_f, notK_b, eNeg, neg_i, eBin, bin_add, bin_sub, bin_mul, bin_div, bin_mod, bin_pow, add_i, add_s, add_oo, add_ov, add_vo, add_vv, sub_i, mul_r, mul_l, mul_s, mul_o, div_p, mod_p, pow_p, eCmp, c_eq, c_ne, c_lt, c_le, c_gt, c_ge, c_is, c_in, c_nin, eq_ii, eq_ss, eq_bb, ne_ii, ne_ss, ne_bb, lt_ii, le_ii, gt_ii, ge_ii, in_ss, nin_ss, eIx, optR_some, ix_lv, ix_lo, ix_lb, ix_tv, ix_tb, ix_s, eSl_k, sl_s, sl_lv, sl_lo, sl_lb, sl_tv, part_none, part_some, pK_i, eBlt_k, len_s, len_lv, len_lo, len_lb, len_tv, len_tb, str_p, int_i, int_b, list_lv, list_lo, list_lb, list_tv, tuple_lv, tuple_lo, tuple_lb, tuple_tv, all_o, any_o, sum_o, min_i, max_i, eIsi_k, isi_bb, isi_ii, isi_bi, isi_ss, isi_st, isi_tt, isi_ts, isi_it, isi_ti, isi_si, isi_ll, isi_lb, isi_lo, eCall_k, arg_v, arg_o, arg_b, eJoin_k, joinX_s, join_o, joinK_s, eGlo, setR_f, setR_fo, setR_t, eSeqX_k, eSeq_k, it_lv, it_lo, it_tv, it_s, id_lv, id_lo, id_lb, id_tv, id_tb, id_s, eRngV_k, rng_1, rng_2, eLc_k, lcK_ok, ofD, Bt.fn, Ty.T, List.map_cons, List.map_nil, List.head?_cons, List.head?_nil, List.length_cons, List.length_nil, List.cons_append, List.nil_append, List.replicate_succ, List.replicate_zero, List.getElem?_cons_zero, List.getElem?_cons_succ, List.set_cons_zero, List.set_cons_succ, Nat.reduceSub, Nat.reduceAdd, Nat.zero_add, if_true, Bool.false_eq_true, if_false, Bool.and_true, Bool.true_and, Nat.zero_le, decide_true, Bool.or_true, Bool.true_or, decide_false, Int.reduceLT, Int.reduceLE, Int.reduceMul, Int.reduceAdd, Int.reduceSub, Int.reduceNeg, Int.reduceToNat, Int.reduceMod, Int.reduceDiv, Nat.reduceLeDiff, Nat.reduceLT, Bool.not_true, Bool.not_false, Bool.and_self, beq_self_eq_true, Int.reducePow, Nat.reducePow, Int.reduceBEq, d__law_both, Tr.d, atI0, atI1, atI2, atI3, atI4, z2, z3, z5, List.length_map, w, Tr.kind, Tr.one, Tr.oth, Tr.lack, Tr.eq, List.map_append]
  cases x.eq <;> simp only [dn_get1, dn_dct0, dn_din, ds_dput, dk_s, dk_i, dk_t0, dk_t1, dk_t2, dk_t3, sDput_k, dputA_d, dputC_k, eDin_k, din_v, din_o, din_b, ain_s, anin_s, dinC_t, dinC_f, ix_dv, ix_do, ix_db, ixC_k, getO_some, getO_none, getC_k, eGet1_k, eGet2_k, get1_v, get1_o, get1_b, get2_v, get2_o, get2_b, runD, runO, st0, run_rn, runO_rn, fin_nx, fin_rt, fin_ex, denB_nil, denB_cons, dens, dn_var, dn_cst, dn_glo, dn_tup, dn_lst, dn_and, dn_or, dn_not, dn_neg, dn_bin, dn_cmp, dn_chn, dn_ite, dn_ix, dn_sl, dn_blt, dn_isi, dn_join, dn_get2, dn_call, dn_rng, dn_lc, ds_pass, ds_brk, ds_cnt, ds_drop, ds_ret, ds_retN, ds_retV, ds_set, ds_unp, ds_ite, ds_fore, ds_whl, ds_app, ds_ext, ds_clr, ds_frz, ds_lend, ds_callO, ds_raise, ds_tryM, denL, List.zip_cons_cons, List.zip_nil_left, List.zip_nil_right, sTry_k, tK_nx, tK_rt, tK_bk, tK_ct, tK_ex, catch_nil, catch_cons, caK_t, caK_f, noX_nx, noX_rt, noX_bk, noX_ct, oSeq_k, oK_nx, oK_rt, oK_bk, oK_ct, oK_ex, oK_st, oB_ok, oB_exc, Res.bind_ok, Res.bind_exc, Res.bind_stuck, sSet, sIf_k, oIf_t, oIf_f, sRet, sRetV, sRetN, sDrop, sFrz, sApp_k, appK_v, appK_o, sExt_k, extK_v, extK_o, sClr, onL, sLend, sCallO, onO, oBs_k, callO_k, cK_s, bK_nx, bK_rt, backO, argO, Option.map_some, sUnp_k, unpK_v, setAll, vals, sFor_k, forK_ok, whK_t, whK_f, whN_nx, whN_ct, whN_bk, whN_rt, whN_ex, eVar, eArgs_nil, eArgs_cons, eTup_k, eLst_k, tupK_s, lstK_s, frozs_nil, frozs_cons, froK_s, froz_v, froz_o, eAnd_k, eOr_k, eNot_k, eIte_k, andK_t, andK_f, orK_t, orK_f, iteK_t, iteK_f, notK_b, eNeg, neg_i, eBin, bin_add, bin_sub, bin_mul, bin_div, bin_mod, bin_pow, add_i, add_s, add_oo, add_ov, add_vo, add_vv, sub_i, mul_r, mul_l, mul_s, mul_o, div_p, mod_p, pow_p, eCmp, c_eq, c_ne, c_lt, c_le, c_gt, c_ge, c_is, c_in, c_nin, eq_ii, eq_ss, eq_bb, ne_ii, ne_ss, ne_bb, lt_ii, le_ii, gt_ii, ge_ii, in_ss, nin_ss, eIx, optR_some, ix_lv, ix_lo, ix_lb, ix_tv, ix_tb, ix_s, eSl_k, sl_s, sl_lv, sl_lo, sl_lb, sl_tv, part_none, part_some, pK_i, eBlt_k, len_s, len_lv, len_lo, len_lb, len_tv, len_tb, str_p, int_i, int_b, list_lv, list_lo, list_lb, list_tv, tuple_lv, tuple_lo, tuple_lb, tuple_tv, all_o, any_o, sum_o, min_i, max_i, eIsi_k, isi_bb, isi_ii, isi_bi, isi_ss, isi_st, isi_tt, isi_ts, isi_it, isi_ti, isi_si, isi_ll, isi_lb, isi_lo, eCall_k, arg_v, arg_o, arg_b, eJoin_k, joinX_s, join_o, joinK_s, eGlo, setR_f, setR_fo, setR_t, eSeqX_k, eSeq_k, it_lv, it_lo, it_tv, it_s, id_lv, id_lo, id_lb, id_tv, id_tb, id_s, eRngV_k, rng_1, rng_2, eLc_k, lcK_ok, ofD, Bt.fn, Ty.T, List.map_cons, List.map_nil, List.head?_cons, List.head?_nil, List.length_cons, List.length_nil, List.cons_append, List.nil_append, List.replicate_succ, List.replicate_zero, List.getElem?_cons_zero, List.getElem?_cons_succ, List.set_cons_zero, List.set_cons_succ, Nat.reduceSub, Nat.reduceAdd, Nat.zero_add, if_true, Bool.false_eq_true, if_false, Bool.and_true, Bool.true_and, Nat.zero_le, decide_true, Bool.or_true, Bool.true_or, decide_false, Int.reduceLT, Int.reduceLE, Int.reduceMul, Int.reduceAdd, Int.reduceSub, Int.reduceNeg, Int.reduceToNat, Int.reduceMod, Int.reduceDiv, Nat.reduceLeDiff, Nat.reduceLT, Bool.not_true, Bool.not_false, Bool.and_self, beq_self_eq_true, Int.reducePow, Nat.reducePow, Int.reduceBEq, atI0, atI1, atI2, atI3, atI4, z2, z3, z5, Bool.true_and, Bool.false_and]
theorem abc (i : Int) (h0 : 0 ≤ i) (h1 : i < 26) : atI ("abcdefghijklmnopqrstuvwxyz" : Str).cps.toList i = some (97 + i.toNat) := by
  obtain ⟨j, rfl⟩ := Int.eq_ofNat_of_zero_le h0
  have h : ∀ j : Nat, j < 26 → atI ("abcdefghijklmnopqrstuvwxyz" : Str).cps.toList (j : Int) = some (97 + (j : Int).toNat) := by decide +kernel
  exact h j (by omega)
theorem join_cs : ∀ l : List Nat, Str.join "" (l.map fun c => (⟨#[c]⟩ : Str)) = ⟨l.toArray⟩
  | [] => rfl
  | [c] => rfl
  | c :: e :: r => by
    have ih := join_cs (e :: r)
    show (⟨#[c]⟩ ++ "" ++ Str.join "" ((e :: r).map fun c => (⟨#[c]⟩ : Str)) : Str) = _
    rw [ih]
    show (⟨(#[c] ++ #[]) ++ (e :: r).toArray⟩ : Str) = _
    congr 1
    apply Array.ext'
    simp
theorem cs_ne {p : Nat} {l l' : List Nat} {j : Nat} (h : l[j]? ≠ l'[j]?) : ((⟨#[p]⟩ : Str) ++ ⟨l.toArray⟩) ≠ (⟨#[p]⟩ : Str) ++ ⟨l'.toArray⟩ := fun e => by
  have e2 : (#[p] ++ l.toArray) = (#[p] ++ l'.toArray) := congrArg Str.cps e
  have e3 := congrArg Array.toList e2
  simp at e3
  exact h (by rw [e3])
def wl (c k j : Int) : Nat := 97 + ((c / 432 + 7 * j * j + k * (if (j == c / 12 % (c % 12)) = true then 1 else 0)) % 26).toNat
def wk (p : Nat) (c k : Int) : Str := ⟨#[p]⟩ ++ ⟨((List.range (c % 12).toNat).map fun (i : Nat) => wl c k (0 + (i : Nat))).toArray⟩
theorem join_v (a : Str) (ds : List D) : mJoin (.val (.str a)) (.val (.lst ds)) = joinK a (stsL ds) := by cases h2 : stsL ds <;> simp [mJoin, joinK, h2]
theorem forGo_nx {t : Tg} {body : Mp.Env → Out} {d : D} {ds : List D} {ρ ρ1 ρ2 : Mp.Env} (h : bindD t d ρ = some ρ1) (h2 : body ρ1 = .nx ρ2) : forGo t body (d :: ds) ρ = forGo t body ds ρ2 := by simp only [forGo, h, h2]
theorem words_eq3 (n : Nat) (c : Int) : ∃ w0 w1 w2 : Str, w0 ≠ w1 ∧ w2 ≠ w1 ∧ rn T M (n + 1) 2 [.val (.int c), .val (.int 3)] = .ok (.own (.lst [.str w0, .str w1, .str w2])) := by
  have hA : Str.length "abcdefghijklmnopqrstuvwxyz" ≤ LIM := by decide +kernel
  rw [rn_at (F := d__law_words) rfl]
  cases b0 : (c % 12 == 0)
  · have hz : c % 12 ≠ 0 := by simpa using b0
    have z0 : 0 < c % 12 := by omega
    obtain ⟨p, hp⟩ := at_lit (z := "kqz") (n := 3) (by decide +kernel) (i := c / 144 % 3) (by omega) (by omega)
    have hB : Str.length "kqz" ≤ LIM := by decide +kernel
    have n3 : (3 : Nat) ≤ LIM := by decide
    have one : ∀ (k : Int), 0 ≤ k → k ≤ 2 → ∀ (acc : List D) (a b : Option R), acc.length ≤ 3 → ∃ a', denB ⟨rnO T M n, M.glo, M.sub⟩
        [.set false 7 (.lc (.ix (.var 2) (.bin .Mod (.bin .Add (.bin .Add (.bin .FloorDiv (.var 0) (.cst (.int 432))) (.bin .Mult (.bin .Mult (.cst (.int 7)) (.var 8)) (.var 8))) (.bin .Mult (.var 6) (.blt .int [.cmp .Eq (.var 8) (.var 4)]))) (.cst (.int 26)))) (.one 8) (.rng [.var 3]) []),
          .app 5 (.bin .Add (.ix (.cst (.str "kqz")) (.bin .Mod (.bin .FloorDiv (.var 0) (.cst (.int 144))) (.cst (.int 3)))) (.join (.cst (.str "")) (.var 7)))]
        [some (.val (.int c)), some (.val (.int 3)), some (.val (.str "abcdefghijklmnopqrstuvwxyz")), some (.val (.int (c % 12))), some (.val (.int (c / 12 % (c % 12)))), some (.own (.lst acc)), some (.val (.int k)), a, b] =
        .nx [some (.val (.int c)), some (.val (.int 3)), some (.val (.str "abcdefghijklmnopqrstuvwxyz")), some (.val (.int (c % 12))), some (.val (.int (c / 12 % (c % 12)))), some (.own (.lst (acc ++ [.str (wk p c k)]))), some (.val (.int k)), a', b] := by
      intro k k0 k1 acc a b hacc
      have hk : ∀ d ∈ rngD 0 (c % 12).toNat, ∃ ρ r, bindD (.one 8) d (wipeE [some (.val (.int c)), some (.val (.int 3)), some (.val (.str "abcdefghijklmnopqrstuvwxyz")), some (.val (.int (c % 12))), some (.val (.int (c / 12 % (c % 12)))), some (.own (.lst acc)), some (.val (.int k)), a, b] (Tg.one 8).slots) = some ρ ∧
          den ⟨rnO T M n, M.glo, M.sub⟩ (.ix (.var 2) (.bin .Mod (.bin .Add (.bin .Add (.bin .FloorDiv (.var 0) (.cst (.int 432))) (.bin .Mult (.bin .Mult (.cst (.int 7)) (.var 8)) (.var 8))) (.bin .Mult (.var 6) (.blt .int [.cmp .Eq (.var 8) (.var 4)]))) (.cst (.int 26)))) ρ = .ok r ∧
          r.froz = some ((fun d => match d with | .int j => D.str ⟨#[wl c k j]⟩ | _ => .non) d) := fun d hd => by
        obtain ⟨i, h1, rfl⟩ := rngD_mem hd
        refine ⟨_, .val (.str ⟨#[wl c k (0 + (i : Nat))]⟩), rfl, ?_, rfl⟩
        have e := abc ((c / 432 + 7 * (0 + ((i : Nat) : Int)) * (0 + (i : Nat)) + k * (if ((0 + ((i : Nat) : Int)) == c / 12 % (c % 12)) = true then 1 else 0)) % 26) (by omega) (by omega)
        simp only [dn_get1, dn_dct0, dn_din, ds_dput, dk_s, dk_i, dk_t0, dk_t1, dk_t2, dk_t3, sDput_k, dputA_d, dputC_k, eDin_k, din_v, din_o, din_b, ain_s, anin_s, dinC_t, dinC_f, ix_dv, ix_do, ix_db, ixC_k, getO_some, getO_none, getC_k, eGet1_k, eGet2_k, get1_v, get1_o, get1_b, get2_v, get2_o, get2_b, runD, runO, st0, run_rn, runO_rn, fin_nx, fin_rt, fin_ex, denB_nil, denB_cons, dens, dn_var, dn_cst, dn_glo, dn_tup, dn_lst, dn_and, dn_or, dn_not, dn_neg, dn_bin, dn_cmp, dn_chn, dn_ite, dn_ix, dn_sl, dn_blt, dn_isi, dn_join, dn_get2, dn_call, dn_rng, dn_lc, ds_pass, ds_brk, ds_cnt, ds_drop, ds_ret, ds_retN, ds_retV, ds_set, ds_unp, ds_ite, ds_fore, ds_whl, ds_app, ds_ext, ds_clr, ds_frz, ds_lend, ds_callO, ds_raise, ds_tryM, denL, List.zip_cons_cons, List.zip_nil_left, List.zip_nil_right, sTry_k, tK_nx, tK_rt, tK_bk, tK_ct, tK_ex, catch_nil, catch_cons, caK_t, caK_f, noX_nx, noX_rt, noX_bk, noX_ct, oSeq_k, oK_nx, oK_rt, oK_bk, oK_ct, oK_ex, oK_st, oB_ok, oB_exc, Res.bind_ok, Res.bind_exc, Res.bind_stuck, sSet, sIf_k, oIf_t, oIf_f, sRet, sRetV, sRetN, sDrop, sFrz, sApp_k, appK_v, appK_o, sExt_k, extK_v, extK_o, sClr, onL, sLend, sCallO, onO, oBs_k, callO_k, cK_s, bK_nx, bK_rt, backO, argO, Option.map_some, sUnp_k, unpK_v, setAll, vals, sFor_k, forK_ok, whK_t, whK_f, whN_nx, whN_ct, whN_bk, whN_rt, whN_ex, eVar, eArgs_nil, eArgs_cons, eTup_k, eLst_k, tupK_s, lstK_s, frozs_nil, frozs_cons, froK_s, froz_v, froz_o, eAnd_k, eOr_k, eNot_k, eIte_k, andK_t, andK_f, orK_t, orK_f, iteK_t, iteK_f, notK_b, eNeg, neg_i, eBin, bin_add, bin_sub, bin_mul, bin_div, bin_mod, bin_pow, add_i, add_s, add_oo, add_ov, add_vo, add_vv, sub_i, mul_r, mul_l, mul_s, mul_o, div_p, mod_p, pow_p, eCmp, c_eq, c_ne, c_lt, c_le, c_gt, c_ge, c_is, c_in, c_nin, eq_ii, eq_ss, eq_bb, ne_ii, ne_ss, ne_bb, lt_ii, le_ii, gt_ii, ge_ii, in_ss, nin_ss, eIx, optR_some, ix_lv, ix_lo, ix_lb, ix_tv, ix_tb, ix_s, eSl_k, sl_s, sl_lv, sl_lo, sl_lb, sl_tv, part_none, part_some, pK_i, eBlt_k, len_s, len_lv, len_lo, len_lb, len_tv, len_tb, str_p, int_i, int_b, list_lv, list_lo, list_lb, list_tv, tuple_lv, tuple_lo, tuple_lb, tuple_tv, all_o, any_o, sum_o, min_i, max_i, eIsi_k, isi_bb, isi_ii, isi_bi, isi_ss, isi_st, isi_tt, isi_ts, isi_it, isi_ti, isi_si, isi_ll, isi_lb, isi_lo, eCall_k, arg_v, arg_o, arg_b, eJoin_k, joinX_s, join_o, joinK_s, eGlo, setR_f, setR_fo, setR_t, eSeqX_k, eSeq_k, it_lv, it_lo, it_tv, it_s, id_lv, id_lo, id_lb, id_tv, id_tb, id_s, eRngV_k, rng_1, rng_2, eLc_k, lcK_ok, ofD, Bt.fn, Ty.T, List.map_cons, List.map_nil, List.head?_cons, List.head?_nil, List.length_cons, List.length_nil, List.cons_append, List.nil_append, List.replicate_succ, List.replicate_zero, List.getElem?_cons_zero, List.getElem?_cons_succ, List.set_cons_zero, List.set_cons_succ, Nat.reduceSub, Nat.reduceAdd, Nat.zero_add, if_true, Bool.false_eq_true, if_false, Bool.and_true, Bool.true_and, Nat.zero_le, decide_true, Bool.or_true, Bool.true_or, decide_false, Int.reduceLT, Int.reduceLE, Int.reduceMul, Int.reduceAdd, Int.reduceSub, Int.reduceNeg, Int.reduceToNat, Int.reduceMod, Int.reduceDiv, Nat.reduceLeDiff, Nat.reduceLT, Bool.not_true, Bool.not_false, Bool.and_self, beq_self_eq_true, Int.reducePow, Nat.reducePow, Int.reduceBEq, wipeE, Tg.slots, hA, e, wl, show (-18446744073709551616 : Int) < 0 + (i : Nat) by omega, show 0 + ((i : Nat) : Int) < 18446744073709551616 by omega, show (-18446744073709551616 : Int) < k by omega, show k < 18446744073709551616 by omega]
      have r1 : decide (c % 12 ≤ 1000000) = true := decide_eq_true (by omega)
      have r2 : decide (-1000000 ≤ c % 12) = true := decide_eq_true (by omega)
      have hsum : ∀ l : List Nat, ((l.map fun (i : Nat) => (⟨#[wl c k (0 + (i : Nat))]⟩ : Str)).map (·.length)).sum = l.length := fun l => by
        induction l with
        | nil => rfl
        | cons x l ih => simp only [List.map_cons, List.sum_cons, ih, len1, List.length_cons]; omega
      have hj : Str.join "" ((List.range (c % 12).toNat).map fun (i : Nat) => (⟨#[wl c k (0 + (i : Nat))]⟩ : Str)) = ⟨((List.range (c % 12).toNat).map fun (i : Nat) => wl c k (0 + (i : Nat))).toArray⟩ := by
        rw [← join_cs, List.map_map]; rfl
      have hlz : (c % 12).toNat + (c % 12).toNat * Str.length "" ≤ LIM := lim_small (by show _ + _ * 0 ≤ _; omega)
      have hq : Str.length ⟨#[p]⟩ + Str.length ⟨((List.range (c % 12).toNat).map fun (i : Nat) => wl c k (0 + (i : Nat))).toArray⟩ ≤ LIM := lim_small (by rw [len1]; show _ + (((List.range (c % 12).toNat).map fun (i : Nat) => wl c k (0 + (i : Nat))).toArray).size ≤ _; simp; omega)
      have az : acc.length < LIM := Nat.lt_of_lt_of_le (show acc.length < 1000 by omega) (by decide)
      refine ⟨some (.val (.lst ((List.range (c % 12).toNat).map fun (i : Nat) => D.str ⟨#[wl c k (0 + (i : Nat))]⟩))), ?_⟩
      simp only [dn_get1, dn_dct0, dn_din, ds_dput, dk_s, dk_i, dk_t0, dk_t1, dk_t2, dk_t3, sDput_k, dputA_d, dputC_k, eDin_k, din_v, din_o, din_b, ain_s, anin_s, dinC_t, dinC_f, ix_dv, ix_do, ix_db, ixC_k, getO_some, getO_none, getC_k, eGet1_k, eGet2_k, get1_v, get1_o, get1_b, get2_v, get2_o, get2_b, runD, runO, st0, run_rn, runO_rn, fin_nx, fin_rt, fin_ex, denB_nil, denB_cons, dens, dn_var, dn_cst, dn_glo, dn_tup, dn_lst, dn_and, dn_or, dn_not, dn_neg, dn_bin, dn_cmp, dn_chn, dn_ite, dn_ix, dn_sl, dn_blt, dn_isi, dn_join, dn_get2, dn_call, dn_rng, dn_lc, ds_pass, ds_brk, ds_cnt, ds_drop, ds_ret, ds_retN, ds_retV, ds_set, ds_unp, ds_ite, ds_fore, ds_whl, ds_app, ds_ext, ds_clr, ds_frz, ds_lend, ds_callO, ds_raise, ds_tryM, denL, List.zip_cons_cons, List.zip_nil_left, List.zip_nil_right, sTry_k, tK_nx, tK_rt, tK_bk, tK_ct, tK_ex, catch_nil, catch_cons, caK_t, caK_f, noX_nx, noX_rt, noX_bk, noX_ct, oSeq_k, oK_nx, oK_rt, oK_bk, oK_ct, oK_ex, oK_st, oB_ok, oB_exc, Res.bind_ok, Res.bind_exc, Res.bind_stuck, sSet, sIf_k, oIf_t, oIf_f, sRet, sRetV, sRetN, sDrop, sFrz, sApp_k, appK_v, appK_o, sExt_k, extK_v, extK_o, sClr, onL, sLend, sCallO, onO, oBs_k, callO_k, cK_s, bK_nx, bK_rt, backO, argO, Option.map_some, sUnp_k, unpK_v, setAll, vals, sFor_k, forK_ok, whK_t, whK_f, whN_nx, whN_ct, whN_bk, whN_rt, whN_ex, eVar, eArgs_nil, eArgs_cons, eTup_k, eLst_k, tupK_s, lstK_s, frozs_nil, frozs_cons, froK_s, froz_v, froz_o, eAnd_k, eOr_k, eNot_k, eIte_k, andK_t, andK_f, orK_t, orK_f, iteK_t, iteK_f, notK_b, eNeg, neg_i, eBin, bin_add, bin_sub, bin_mul, bin_div, bin_mod, bin_pow, add_i, add_s, add_oo, add_ov, add_vo, add_vv, sub_i, mul_r, mul_l, mul_s, mul_o, div_p, mod_p, pow_p, eCmp, c_eq, c_ne, c_lt, c_le, c_gt, c_ge, c_is, c_in, c_nin, eq_ii, eq_ss, eq_bb, ne_ii, ne_ss, ne_bb, lt_ii, le_ii, gt_ii, ge_ii, in_ss, nin_ss, eIx, optR_some, ix_lv, ix_lo, ix_lb, ix_tv, ix_tb, ix_s, eSl_k, sl_s, sl_lv, sl_lo, sl_lb, sl_tv, part_none, part_some, pK_i, eBlt_k, len_s, len_lv, len_lo, len_lb, len_tv, len_tb, str_p, int_i, int_b, list_lv, list_lo, list_lb, list_tv, tuple_lv, tuple_lo, tuple_lb, tuple_tv, all_o, any_o, sum_o, min_i, max_i, eIsi_k, isi_bb, isi_ii, isi_bi, isi_ss, isi_st, isi_tt, isi_ts, isi_it, isi_ti, isi_si, isi_ll, isi_lb, isi_lo, eCall_k, arg_v, arg_o, arg_b, eJoin_k, joinX_s, join_o, joinK_s, eGlo, setR_f, setR_fo, setR_t, eSeqX_k, eSeq_k, it_lv, it_lo, it_tv, it_s, id_lv, id_lo, id_lb, id_tv, id_tb, id_s, eRngV_k, rng_1, rng_2, eLc_k, lcK_ok, ofD, Bt.fn, Ty.T, List.map_cons, List.map_nil, List.head?_cons, List.head?_nil, List.length_cons, List.length_nil, List.cons_append, List.nil_append, List.replicate_succ, List.replicate_zero, List.getElem?_cons_zero, List.getElem?_cons_succ, List.set_cons_zero, List.set_cons_succ, Nat.reduceSub, Nat.reduceAdd, Nat.zero_add, if_true, Bool.false_eq_true, if_false, Bool.and_true, Bool.true_and, Nat.zero_le, decide_true, Bool.or_true, Bool.true_or, decide_false, Int.reduceLT, Int.reduceLE, Int.reduceMul, Int.reduceAdd, Int.reduceSub, Int.reduceNeg, Int.reduceToNat, Int.reduceMod, Int.reduceDiv, Nat.reduceLeDiff, Nat.reduceLT, Bool.not_true, Bool.not_false, Bool.and_self, beq_self_eq_true, Int.reducePow, Nat.reducePow, Int.reduceBEq, r1, r2]
      rw [lcGo_map hk (by rw [rngD_len, List.length_nil]; exact lim_small (by omega))]
      rw [show (rngD 0 (c % 12).toNat).map (fun d => match d with | .int j => D.str ⟨#[wl c k j]⟩ | _ => .non) = (List.range (c % 12).toNat).map (fun (i : Nat) => D.str ⟨#[wl c k (0 + (i : Nat))]⟩) by rw [rngD, List.map_map]; rfl]
      simp only [dn_get1, dn_dct0, dn_din, ds_dput, dk_s, dk_i, dk_t0, dk_t1, dk_t2, dk_t3, sDput_k, dputA_d, dputC_k, eDin_k, din_v, din_o, din_b, ain_s, anin_s, dinC_t, dinC_f, ix_dv, ix_do, ix_db, ixC_k, getO_some, getO_none, getC_k, eGet1_k, eGet2_k, get1_v, get1_o, get1_b, get2_v, get2_o, get2_b, runD, runO, st0, run_rn, runO_rn, fin_nx, fin_rt, fin_ex, denB_nil, denB_cons, dens, dn_var, dn_cst, dn_glo, dn_tup, dn_lst, dn_and, dn_or, dn_not, dn_neg, dn_bin, dn_cmp, dn_chn, dn_ite, dn_ix, dn_sl, dn_blt, dn_isi, dn_join, dn_get2, dn_call, dn_rng, dn_lc, ds_pass, ds_brk, ds_cnt, ds_drop, ds_ret, ds_retN, ds_retV, ds_set, ds_unp, ds_ite, ds_fore, ds_whl, ds_app, ds_ext, ds_clr, ds_frz, ds_lend, ds_callO, ds_raise, ds_tryM, denL, List.zip_cons_cons, List.zip_nil_left, List.zip_nil_right, sTry_k, tK_nx, tK_rt, tK_bk, tK_ct, tK_ex, catch_nil, catch_cons, caK_t, caK_f, noX_nx, noX_rt, noX_bk, noX_ct, oSeq_k, oK_nx, oK_rt, oK_bk, oK_ct, oK_ex, oK_st, oB_ok, oB_exc, Res.bind_ok, Res.bind_exc, Res.bind_stuck, sSet, sIf_k, oIf_t, oIf_f, sRet, sRetV, sRetN, sDrop, sFrz, sApp_k, appK_v, appK_o, sExt_k, extK_v, extK_o, sClr, onL, sLend, sCallO, onO, oBs_k, callO_k, cK_s, bK_nx, bK_rt, backO, argO, Option.map_some, sUnp_k, unpK_v, setAll, vals, sFor_k, forK_ok, whK_t, whK_f, whN_nx, whN_ct, whN_bk, whN_rt, whN_ex, eVar, eArgs_nil, eArgs_cons, eTup_k, eLst_k, tupK_s, lstK_s, frozs_nil, frozs_cons, froK_s, froz_v, froz_o, eAnd_k, eOr_k, eNot_k, eIte_k, andK_t, andK_f, orK_t, orK_f, iteK_t, iteK_f, notK_b, eNeg, neg_i, eBin, bin_add, bin_sub, bin_mul, bin_div, bin_mod, bin_pow, add_i, add_s, add_oo, add_ov, add_vo, add_vv, sub_i, mul_r, mul_l, mul_s, mul_o, div_p, mod_p, pow_p, eCmp, c_eq, c_ne, c_lt, c_le, c_gt, c_ge, c_is, c_in, c_nin, eq_ii, eq_ss, eq_bb, ne_ii, ne_ss, ne_bb, lt_ii, le_ii, gt_ii, ge_ii, in_ss, nin_ss, eIx, optR_some, ix_lv, ix_lo, ix_lb, ix_tv, ix_tb, ix_s, eSl_k, sl_s, sl_lv, sl_lo, sl_lb, sl_tv, part_none, part_some, pK_i, eBlt_k, len_s, len_lv, len_lo, len_lb, len_tv, len_tb, str_p, int_i, int_b, list_lv, list_lo, list_lb, list_tv, tuple_lv, tuple_lo, tuple_lb, tuple_tv, all_o, any_o, sum_o, min_i, max_i, eIsi_k, isi_bb, isi_ii, isi_bi, isi_ss, isi_st, isi_tt, isi_ts, isi_it, isi_ti, isi_si, isi_ll, isi_lb, isi_lo, eCall_k, arg_v, arg_o, arg_b, eJoin_k, joinX_s, join_o, joinK_s, eGlo, setR_f, setR_fo, setR_t, eSeqX_k, eSeq_k, it_lv, it_lo, it_tv, it_s, id_lv, id_lo, id_lb, id_tv, id_tb, id_s, eRngV_k, rng_1, rng_2, eLc_k, lcK_ok, ofD, Bt.fn, Ty.T, List.map_cons, List.map_nil, List.head?_cons, List.head?_nil, List.length_cons, List.length_nil, List.cons_append, List.nil_append, List.replicate_succ, List.replicate_zero, List.getElem?_cons_zero, List.getElem?_cons_succ, List.set_cons_zero, List.set_cons_succ, Nat.reduceSub, Nat.reduceAdd, Nat.zero_add, if_true, Bool.false_eq_true, if_false, Bool.and_true, Bool.true_and, Nat.zero_le, decide_true, Bool.or_true, Bool.true_or, decide_false, Int.reduceLT, Int.reduceLE, Int.reduceMul, Int.reduceAdd, Int.reduceSub, Int.reduceNeg, Int.reduceToNat, Int.reduceMod, Int.reduceDiv, Nat.reduceLeDiff, Nat.reduceLT, Bool.not_true, Bool.not_false, Bool.and_self, beq_self_eq_true, Int.reducePow, Nat.reducePow, Int.reduceBEq, join_v, stsL_map, hsum, List.length_range, List.length_map, wk, hj, hlz, hB, hp, hq, az]
    obtain ⟨a0, q0⟩ := one 0 (by omega) (by omega) [] none none (by decide)
    obtain ⟨a1, q1⟩ := one 1 (by omega) (by omega) ([] ++ [.str (wk p c 0)]) a0 none (by simp)
    obtain ⟨a2, q2⟩ := one 2 (by omega) (by omega) ([] ++ [.str (wk p c 0)] ++ [.str (wk p c 1)]) a1 none (by simp)
    obtain ⟨j, hj⟩ := Int.eq_ofNat_of_zero_le (Int.emod_nonneg (c / 12) hz)
    have hj2 := Int.emod_lt_of_pos (c / 12) z0
    have dif : ∀ k k' : Int, 0 ≤ k → k ≤ 2 → 0 ≤ k' → k' ≤ 2 → k ≠ k' → wk p c k ≠ wk p c k' := fun k k' a b a' b' h => by
      refine cs_ne (j := j) ?_
      have hl : j < (c % 12).toNat := by omega
      have t : ((0 + (j : Int)) == c / 12 % (c % 12)) = true := by rw [hj]; simp
      simp only [List.getElem?_map, List.getElem?_range hl, Option.map_some, wl, t, if_true, ne_eq, Option.some.injEq]
      generalize 7 * (0 + (j : Int)) * (0 + (j : Int)) = u
      omega
    refine ⟨_, _, _, dif 0 1 (by omega) (by omega) (by omega) (by omega) (by omega), dif 2 1 (by omega) (by omega) (by omega) (by omega) (by omega), ?_⟩
    simp only [dn_get1, dn_dct0, dn_din, ds_dput, dk_s, dk_i, dk_t0, dk_t1, dk_t2, dk_t3, sDput_k, dputA_d, dputC_k, eDin_k, din_v, din_o, din_b, ain_s, anin_s, dinC_t, dinC_f, ix_dv, ix_do, ix_db, ixC_k, getO_some, getO_none, getC_k, eGet1_k, eGet2_k, get1_v, get1_o, get1_b, get2_v, get2_o, get2_b, runD, runO, st0, run_rn, runO_rn, fin_nx, fin_rt, fin_ex, denB_nil, denB_cons, dens, dn_var, dn_cst, dn_glo, dn_tup, dn_lst, dn_and, dn_or, dn_not, dn_neg, dn_bin, dn_cmp, dn_chn, dn_ite, dn_ix, dn_sl, dn_blt, dn_isi, dn_join, dn_get2, dn_call, dn_rng, dn_lc, ds_pass, ds_brk, ds_cnt, ds_drop, ds_ret, ds_retN, ds_retV, ds_set, ds_unp, ds_ite, ds_fore, ds_whl, ds_app, ds_ext, ds_clr, ds_frz, ds_lend, ds_callO, ds_raise, ds_tryM, denL, List.zip_cons_cons, List.zip_nil_left, List.zip_nil_right, sTry_k, tK_nx, tK_rt, tK_bk, tK_ct, tK_ex, catch_nil, catch_cons, caK_t, caK_f, noX_nx, noX_rt, noX_bk, noX_ct, oSeq_k, oK_nx, oK_rt, oK_bk, oK_ct, oK_ex, oK_st, oB_ok, oB_exc, Res.bind_ok, Res.bind_exc, Res.bind_stuck, sSet, sIf_k, oIf_t, oIf_f, sRet, sRetV, sRetN, sDrop, sFrz, sApp_k, appK_v, appK_o, sExt_k, extK_v, extK_o, sClr, onL, sLend, sCallO, onO, oBs_k, callO_k, cK_s, bK_nx, bK_rt, backO, argO, Option.map_some, sUnp_k, unpK_v, setAll, vals, sFor_k, forK_ok, whK_t, whK_f, whN_nx, whN_ct, whN_bk, whN_rt, whN_ex, eVar, eArgs_nil, eArgs_cons, eTup_k, eLst_k, tupK_s, lstK_s, frozs_nil, frozs_cons, froK_s, froz_v, froz_o, eAnd_k, eOr_k, eNot_k, eIte_k, andK_t, andK_f, orK_t, orK_f, iteK_t, iteK_f, notK_b, eNeg, neg_i, eBin, bin_add, bin_sub, bin_mul, bin_div, bin_mod, bin_pow, add_i, add_s, add_oo, add_ov, add_vo, add_vv, sub_i, mul_r, mul_l, mul_s, mul_o, div_p, mod_p, pow_p, eCmp, c_eq, c_ne, c_lt, c_le, c_gt, c_ge, c_is, c_in, c_nin, eq_ii, eq_ss, eq_bb, ne_ii, ne_ss, ne_bb, lt_ii, le_ii, gt_ii, ge_ii, in_ss, nin_ss, eIx, optR_some, ix_lv, ix_lo, ix_lb, ix_tv, ix_tb, ix_s, eSl_k, sl_s, sl_lv, sl_lo, sl_lb, sl_tv, part_none, part_some, pK_i, eBlt_k, len_s, len_lv, len_lo, len_lb, len_tv, len_tb, str_p, int_i, int_b, list_lv, list_lo, list_lb, list_tv, tuple_lv, tuple_lo, tuple_lb, tuple_tv, all_o, any_o, sum_o, min_i, max_i, eIsi_k, isi_bb, isi_ii, isi_bi, isi_ss, isi_st, isi_tt, isi_ts, isi_it, isi_ti, isi_si, isi_ll, isi_lb, isi_lo, eCall_k, arg_v, arg_o, arg_b, eJoin_k, joinX_s, join_o, joinK_s, eGlo, setR_f, setR_fo, setR_t, eSeqX_k, eSeq_k, it_lv, it_lo, it_tv, it_s, id_lv, id_lo, id_lb, id_tv, id_tb, id_s, eRngV_k, rng_1, rng_2, eLc_k, lcK_ok, ofD, Bt.fn, Ty.T, List.map_cons, List.map_nil, List.head?_cons, List.head?_nil, List.length_cons, List.length_nil, List.cons_append, List.nil_append, List.replicate_succ, List.replicate_zero, List.getElem?_cons_zero, List.getElem?_cons_succ, List.set_cons_zero, List.set_cons_succ, Nat.reduceSub, Nat.reduceAdd, Nat.zero_add, if_true, Bool.false_eq_true, if_false, Bool.and_true, Bool.true_and, Nat.zero_le, decide_true, Bool.or_true, Bool.true_or, decide_false, Int.reduceLT, Int.reduceLE, Int.reduceMul, Int.reduceAdd, Int.reduceSub, Int.reduceNeg, Int.reduceToNat, Int.reduceMod, Int.reduceDiv, Nat.reduceLeDiff, Nat.reduceLT, Bool.not_true, Bool.not_false, Bool.and_self, beq_self_eq_true, Int.reducePow, Nat.reducePow, Int.reduceBEq, d__law_words, b0, z0]
    rw [show rngD 0 3 = [.int 0, .int 1, .int 2] from rfl]
    rw [forGo_nx rfl q0, forGo_nx rfl q1, forGo_nx rfl q2]
    rfl
  · have hk : ∀ d ∈ rngD 0 3, ∃ ρ r, bindD (.one 6) d (wipeE [some (.val (.int c)), some (.val (.int 3)), some (.val (.str "abcdefghijklmnopqrstuvwxyz")), some (.val (.int (c % 12))), none, none, none, none, none] (Tg.one 6).slots) = some ρ ∧
        den ⟨rnO T M n, M.glo, M.sub⟩ (.ix (.var 2) (.bin .Mod (.bin .Add (.bin .FloorDiv (.var 0) (.cst (.int 12))) (.var 6)) (.cst (.int 26)))) ρ = .ok r ∧ r.froz = some ((fun d => match d with | .int k => D.str ⟨#[97 + ((c / 12 + k) % 26).toNat]⟩ | _ => .non) d) := fun d hd => by
      obtain ⟨i, h1, rfl⟩ := rngD_mem hd
      refine ⟨_, .val (.str ⟨#[97 + ((c / 12 + (0 + (i : Nat))) % 26).toNat]⟩), rfl, ?_, rfl⟩
      have e := abc ((c / 12 + (0 + (i : Nat))) % 26) (by omega) (by omega)
      simp only [dn_get1, dn_dct0, dn_din, ds_dput, dk_s, dk_i, dk_t0, dk_t1, dk_t2, dk_t3, sDput_k, dputA_d, dputC_k, eDin_k, din_v, din_o, din_b, ain_s, anin_s, dinC_t, dinC_f, ix_dv, ix_do, ix_db, ixC_k, getO_some, getO_none, getC_k, eGet1_k, eGet2_k, get1_v, get1_o, get1_b, get2_v, get2_o, get2_b, runD, runO, st0, run_rn, runO_rn, fin_nx, fin_rt, fin_ex, denB_nil, denB_cons, dens, dn_var, dn_cst, dn_glo, dn_tup, dn_lst, dn_and, dn_or, dn_not, dn_neg, dn_bin, dn_cmp, dn_chn, dn_ite, dn_ix, dn_sl, dn_blt, dn_isi, dn_join, dn_get2, dn_call, dn_rng, dn_lc, ds_pass, ds_brk, ds_cnt, ds_drop, ds_ret, ds_retN, ds_retV, ds_set, ds_unp, ds_ite, ds_fore, ds_whl, ds_app, ds_ext, ds_clr, ds_frz, ds_lend, ds_callO, ds_raise, ds_tryM, denL, List.zip_cons_cons, List.zip_nil_left, List.zip_nil_right, sTry_k, tK_nx, tK_rt, tK_bk, tK_ct, tK_ex, catch_nil, catch_cons, caK_t, caK_f, noX_nx, noX_rt, noX_bk, noX_ct, oSeq_k, oK_nx, oK_rt, oK_bk, oK_ct, oK_ex, oK_st, oB_ok, oB_exc, Res.bind_ok, Res.bind_exc, Res.bind_stuck, sSet, sIf_k, oIf_t, oIf_f, sRet, sRetV, sRetN, sDrop, sFrz, sApp_k, appK_v, appK_o, sExt_k, extK_v, extK_o, sClr, onL, sLend, sCallO, onO, oBs_k, callO_k, cK_s, bK_nx, bK_rt, backO, argO, Option.map_some, sUnp_k, unpK_v, setAll, vals, sFor_k, forK_ok, whK_t, whK_f, whN_nx, whN_ct, whN_bk, whN_rt, whN_ex, eVar, eArgs_nil, eArgs_cons, eTup_k, eLst_k, tupK_s, lstK_s, frozs_nil, frozs_cons, froK_s, froz_v, froz_o, eAnd_k, eOr_k, eNot_k, eIte_k, andK_t, andK_f, orK_t, orK_f, iteK_t, iteK_f, notK_b, eNeg, neg_i, eBin, bin_add, bin_sub, bin_mul, bin_div, bin_mod, bin_pow, add_i, add_s, add_oo, add_ov, add_vo, add_vv, sub_i, mul_r, mul_l, mul_s, mul_o, div_p, mod_p, pow_p, eCmp, c_eq, c_ne, c_lt, c_le, c_gt, c_ge, c_is, c_in, c_nin, eq_ii, eq_ss, eq_bb, ne_ii, ne_ss, ne_bb, lt_ii, le_ii, gt_ii, ge_ii, in_ss, nin_ss, eIx, optR_some, ix_lv, ix_lo, ix_lb, ix_tv, ix_tb, ix_s, eSl_k, sl_s, sl_lv, sl_lo, sl_lb, sl_tv, part_none, part_some, pK_i, eBlt_k, len_s, len_lv, len_lo, len_lb, len_tv, len_tb, str_p, int_i, int_b, list_lv, list_lo, list_lb, list_tv, tuple_lv, tuple_lo, tuple_lb, tuple_tv, all_o, any_o, sum_o, min_i, max_i, eIsi_k, isi_bb, isi_ii, isi_bi, isi_ss, isi_st, isi_tt, isi_ts, isi_it, isi_ti, isi_si, isi_ll, isi_lb, isi_lo, eCall_k, arg_v, arg_o, arg_b, eJoin_k, joinX_s, join_o, joinK_s, eGlo, setR_f, setR_fo, setR_t, eSeqX_k, eSeq_k, it_lv, it_lo, it_tv, it_s, id_lv, id_lo, id_lb, id_tv, id_tb, id_s, eRngV_k, rng_1, rng_2, eLc_k, lcK_ok, ofD, Bt.fn, Ty.T, List.map_cons, List.map_nil, List.head?_cons, List.head?_nil, List.length_cons, List.length_nil, List.cons_append, List.nil_append, List.replicate_succ, List.replicate_zero, List.getElem?_cons_zero, List.getElem?_cons_succ, List.set_cons_zero, List.set_cons_succ, Nat.reduceSub, Nat.reduceAdd, Nat.zero_add, if_true, Bool.false_eq_true, if_false, Bool.and_true, Bool.true_and, Nat.zero_le, decide_true, Bool.or_true, Bool.true_or, decide_false, Int.reduceLT, Int.reduceLE, Int.reduceMul, Int.reduceAdd, Int.reduceSub, Int.reduceNeg, Int.reduceToNat, Int.reduceMod, Int.reduceDiv, Nat.reduceLeDiff, Nat.reduceLT, Bool.not_true, Bool.not_false, Bool.and_self, beq_self_eq_true, Int.reducePow, Nat.reducePow, Int.reduceBEq, wipeE, Tg.slots, hA, e]
    refine ⟨⟨#[97 + ((c / 12 + 0) % 26).toNat]⟩, ⟨#[97 + ((c / 12 + 1) % 26).toNat]⟩, ⟨#[97 + ((c / 12 + 2) % 26).toNat]⟩, fun e => ?_, fun e => ?_, ?_⟩
    · have := congrArg (fun s : Str => s.cps.toList) e
      simp only [List.cons.injEq] at this
      omega
    · have := congrArg (fun s : Str => s.cps.toList) e
      simp only [List.cons.injEq] at this
      omega
    · simp only [dn_get1, dn_dct0, dn_din, ds_dput, dk_s, dk_i, dk_t0, dk_t1, dk_t2, dk_t3, sDput_k, dputA_d, dputC_k, eDin_k, din_v, din_o, din_b, ain_s, anin_s, dinC_t, dinC_f, ix_dv, ix_do, ix_db, ixC_k, getO_some, getO_none, getC_k, eGet1_k, eGet2_k, get1_v, get1_o, get1_b, get2_v, get2_o, get2_b, runD, runO, st0, run_rn, runO_rn, fin_nx, fin_rt, fin_ex, denB_nil, denB_cons, dens, dn_var, dn_cst, dn_glo, dn_tup, dn_lst, dn_and, dn_or, dn_not, dn_neg, dn_bin, dn_cmp, dn_chn, dn_ite, dn_ix, dn_sl, dn_blt, dn_isi, dn_join, dn_get2, dn_call, dn_rng, dn_lc, ds_pass, ds_brk, ds_cnt, ds_drop, ds_ret, ds_retN, ds_retV, ds_set, ds_unp, ds_ite, ds_fore, ds_whl, ds_app, ds_ext, ds_clr, ds_frz, ds_lend, ds_callO, ds_raise, ds_tryM, denL, List.zip_cons_cons, List.zip_nil_left, List.zip_nil_right, sTry_k, tK_nx, tK_rt, tK_bk, tK_ct, tK_ex, catch_nil, catch_cons, caK_t, caK_f, noX_nx, noX_rt, noX_bk, noX_ct, oSeq_k, oK_nx, oK_rt, oK_bk, oK_ct, oK_ex, oK_st, oB_ok, oB_exc, Res.bind_ok, Res.bind_exc, Res.bind_stuck, sSet, sIf_k, oIf_t, oIf_f, sRet, sRetV, sRetN, sDrop, sFrz, sApp_k, appK_v, appK_o, sExt_k, extK_v, extK_o, sClr, onL, sLend, sCallO, onO, oBs_k, callO_k, cK_s, bK_nx, bK_rt, backO, argO, Option.map_some, sUnp_k, unpK_v, setAll, vals, sFor_k, forK_ok, whK_t, whK_f, whN_nx, whN_ct, whN_bk, whN_rt, whN_ex, eVar, eArgs_nil, eArgs_cons, eTup_k, eLst_k, tupK_s, lstK_s, frozs_nil, frozs_cons, froK_s, froz_v, froz_o, eAnd_k, eOr_k, eNot_k, eIte_k, andK_t, andK_f, orK_t, orK_f, iteK_t, iteK_f, notK_b, eNeg, neg_i, eBin, bin_add, bin_sub, bin_mul, bin_div, bin_mod, bin_pow, add_i, add_s, add_oo, add_ov, add_vo, add_vv, sub_i, mul_r, mul_l, mul_s, mul_o, div_p, mod_p, pow_p, eCmp, c_eq, c_ne, c_lt, c_le, c_gt, c_ge, c_is, c_in, c_nin, eq_ii, eq_ss, eq_bb, ne_ii, ne_ss, ne_bb, lt_ii, le_ii, gt_ii, ge_ii, in_ss, nin_ss, eIx, optR_some, ix_lv, ix_lo, ix_lb, ix_tv, ix_tb, ix_s, eSl_k, sl_s, sl_lv, sl_lo, sl_lb, sl_tv, part_none, part_some, pK_i, eBlt_k, len_s, len_lv, len_lo, len_lb, len_tv, len_tb, str_p, int_i, int_b, list_lv, list_lo, list_lb, list_tv, tuple_lv, tuple_lo, tuple_lb, tuple_tv, all_o, any_o, sum_o, min_i, max_i, eIsi_k, isi_bb, isi_ii, isi_bi, isi_ss, isi_st, isi_tt, isi_ts, isi_it, isi_ti, isi_si, isi_ll, isi_lb, isi_lo, eCall_k, arg_v, arg_o, arg_b, eJoin_k, joinX_s, join_o, joinK_s, eGlo, setR_f, setR_fo, setR_t, eSeqX_k, eSeq_k, it_lv, it_lo, it_tv, it_s, id_lv, id_lo, id_lb, id_tv, id_tb, id_s, eRngV_k, rng_1, rng_2, eLc_k, lcK_ok, ofD, Bt.fn, Ty.T, List.map_cons, List.map_nil, List.head?_cons, List.head?_nil, List.length_cons, List.length_nil, List.cons_append, List.nil_append, List.replicate_succ, List.replicate_zero, List.getElem?_cons_zero, List.getElem?_cons_succ, List.set_cons_zero, List.set_cons_succ, Nat.reduceSub, Nat.reduceAdd, Nat.zero_add, if_true, Bool.false_eq_true, if_false, Bool.and_true, Bool.true_and, Nat.zero_le, decide_true, Bool.or_true, Bool.true_or, decide_false, Int.reduceLT, Int.reduceLE, Int.reduceMul, Int.reduceAdd, Int.reduceSub, Int.reduceNeg, Int.reduceToNat, Int.reduceMod, Int.reduceDiv, Nat.reduceLeDiff, Nat.reduceLT, Bool.not_true, Bool.not_false, Bool.and_self, beq_self_eq_true, Int.reducePow, Nat.reducePow, Int.reduceBEq, d__law_words, b0]
      rw [lcGo_map hk (by rw [rngD_len, List.length_nil]; decide)]
      rfl
/-- a row that goes with the words -/
def Rw.ok (w0 w1 w2 : Str) (r : Rw) : Prop := (∃ a, r.o = .i a ∧ r.w ≠ w1) ∨ ∃ a b, r.o = .p a b ∧ r.w = w1
theorem at2 (a b : Int) (i : Int) (ha : 0 < a) (hb : 0 < b) : ∃ v : Int, 0 < v ∧ atI [D.int a, D.int b] (i % 2) = some (.int v) := by
  rcases (by omega : i % 2 = 0 ∨ i % 2 = 1) with h | h
  · exact ⟨a, ha, by rw [h]; rfl⟩
  · exact ⟨b, hb, by rw [h]; rfl⟩
section
variable {w0 w1 w2 : Str}
theorem row_eq (h0 : w0 ≠ w1) (h2 : w2 ≠ w1) (n : Nat) (c : Int) : ∃ r : Rw, r.ok w0 w1 w2 ∧ rn T M (n + 1) 3 [.val (.int c), .val (.lst [.str w0, .str w1, .str w2])] = .ok (.val r.d) := by
  have z2 : (2 : Nat) ≤ LIM := by decide
  have z3 : (3 : Nat) ≤ LIM := by decide
  obtain ⟨v, v0, hv⟩ := at2 1000000000000000000 3 (c / 3) (by omega) (by omega)
  rw [rn_at (F := d__law_row) rfl]
  cases b1 : (c % 3 == 1)
  · rcases (by have : c % 3 ≠ 1 := by simpa using b1
               omega : c % 3 = 0 ∨ c % 3 = 2) with h | h
    · refine ⟨⟨w0, c / 3 * 982451653 % 1000000000000000000, .i (c / 3 * 48271 % v)⟩, .inl ⟨_, rfl, h0⟩, ?_⟩
      simp only [dn_get1, dn_dct0, dn_din, ds_dput, dk_s, dk_i, dk_t0, dk_t1, dk_t2, dk_t3, sDput_k, dputA_d, dputC_k, eDin_k, din_v, din_o, din_b, ain_s, anin_s, dinC_t, dinC_f, ix_dv, ix_do, ix_db, ixC_k, getO_some, getO_none, getC_k, eGet1_k, eGet2_k, get1_v, get1_o, get1_b, get2_v, get2_o, get2_b, runD, runO, st0, run_rn, runO_rn, fin_nx, fin_rt, fin_ex, denB_nil, denB_cons, dens, dn_var, dn_cst, dn_glo, dn_tup, dn_lst, dn_and, dn_or, dn_not, dn_neg, dn_bin, dn_cmp, dn_chn, dn_ite, dn_ix, dn_sl, dn_blt, dn_isi, dn_join, dn_get2, dn_call, dn_rng, dn_lc, ds_pass, ds_brk, ds_cnt, ds_drop, ds_ret, ds_retN, ds_retV, ds_set, ds_unp, ds_ite, ds_fore, ds_whl, ds_app, ds_ext, ds_clr, ds_frz, ds_lend, ds_callO, ds_raise, ds_tryM, denL, List.zip_cons_cons, List.zip_nil_left, List.zip_nil_right, sTry_k, tK_nx, tK_rt, tK_bk, tK_ct, tK_ex, catch_nil, catch_cons, caK_t, caK_f, noX_nx, noX_rt, noX_bk, noX_ct, oSeq_k, oK_nx, oK_rt, oK_bk, oK_ct, oK_ex, oK_st, oB_ok, oB_exc, Res.bind_ok, Res.bind_exc, Res.bind_stuck, sSet, sIf_k, oIf_t, oIf_f, sRet, sRetV, sRetN, sDrop, sFrz, sApp_k, appK_v, appK_o, sExt_k, extK_v, extK_o, sClr, onL, sLend, sCallO, onO, oBs_k, callO_k, cK_s, bK_nx, bK_rt, backO, argO, Option.map_some, sUnp_k, unpK_v, setAll, vals, sFor_k, forK_ok, whK_t, whK_f, whN_nx, whN_ct, whN_bk, whN_rt, whN_ex, eVar, eArgs_nil, eArgs_cons, eTup_k, eLst_k, tupK_s, lstK_s, frozs_nil, frozs_cons, froK_s, froz_v, froz_o, eAnd_k, eOr_k, eNot_k, eIte_k, andK_t, andK_f, orK_t, orK_f, iteK_t, iteK_f, notK_b, eNeg, neg_i, eBin, bin_add, bin_sub, bin_mul, bin_div, bin_mod, bin_pow, add_i, add_s, add_oo, add_ov, add_vo, add_vv, sub_i, mul_r, mul_l, mul_s, mul_o, div_p, mod_p, pow_p, eCmp, c_eq, c_ne, c_lt, c_le, c_gt, c_ge, c_is, c_in, c_nin, eq_ii, eq_ss, eq_bb, ne_ii, ne_ss, ne_bb, lt_ii, le_ii, gt_ii, ge_ii, in_ss, nin_ss, eIx, optR_some, ix_lv, ix_lo, ix_lb, ix_tv, ix_tb, ix_s, eSl_k, sl_s, sl_lv, sl_lo, sl_lb, sl_tv, part_none, part_some, pK_i, eBlt_k, len_s, len_lv, len_lo, len_lb, len_tv, len_tb, str_p, int_i, int_b, list_lv, list_lo, list_lb, list_tv, tuple_lv, tuple_lo, tuple_lb, tuple_tv, all_o, any_o, sum_o, min_i, max_i, eIsi_k, isi_bb, isi_ii, isi_bi, isi_ss, isi_st, isi_tt, isi_ts, isi_it, isi_ti, isi_si, isi_ll, isi_lb, isi_lo, eCall_k, arg_v, arg_o, arg_b, eJoin_k, joinX_s, join_o, joinK_s, eGlo, setR_f, setR_fo, setR_t, eSeqX_k, eSeq_k, it_lv, it_lo, it_tv, it_s, id_lv, id_lo, id_lb, id_tv, id_tb, id_s, eRngV_k, rng_1, rng_2, eLc_k, lcK_ok, ofD, Bt.fn, Ty.T, List.map_cons, List.map_nil, List.head?_cons, List.head?_nil, List.length_cons, List.length_nil, List.cons_append, List.nil_append, List.replicate_succ, List.replicate_zero, List.getElem?_cons_zero, List.getElem?_cons_succ, List.set_cons_zero, List.set_cons_succ, Nat.reduceSub, Nat.reduceAdd, Nat.zero_add, if_true, Bool.false_eq_true, if_false, Bool.and_true, Bool.true_and, Nat.zero_le, decide_true, Bool.or_true, Bool.true_or, decide_false, Int.reduceLT, Int.reduceLE, Int.reduceMul, Int.reduceAdd, Int.reduceSub, Int.reduceNeg, Int.reduceToNat, Int.reduceMod, Int.reduceDiv, Nat.reduceLeDiff, Nat.reduceLT, Bool.not_true, Bool.not_false, Bool.and_self, beq_self_eq_true, Int.reducePow, Nat.reducePow, Int.reduceBEq, d__law_row, b1, hv, v0, z2, z3]
      simp only [h, dn_get1, dn_dct0, dn_din, ds_dput, dk_s, dk_i, dk_t0, dk_t1, dk_t2, dk_t3, sDput_k, dputA_d, dputC_k, eDin_k, din_v, din_o, din_b, ain_s, anin_s, dinC_t, dinC_f, ix_dv, ix_do, ix_db, ixC_k, getO_some, getO_none, getC_k, eGet1_k, eGet2_k, get1_v, get1_o, get1_b, get2_v, get2_o, get2_b, runD, runO, st0, run_rn, runO_rn, fin_nx, fin_rt, fin_ex, denB_nil, denB_cons, dens, dn_var, dn_cst, dn_glo, dn_tup, dn_lst, dn_and, dn_or, dn_not, dn_neg, dn_bin, dn_cmp, dn_chn, dn_ite, dn_ix, dn_sl, dn_blt, dn_isi, dn_join, dn_get2, dn_call, dn_rng, dn_lc, ds_pass, ds_brk, ds_cnt, ds_drop, ds_ret, ds_retN, ds_retV, ds_set, ds_unp, ds_ite, ds_fore, ds_whl, ds_app, ds_ext, ds_clr, ds_frz, ds_lend, ds_callO, ds_raise, ds_tryM, denL, List.zip_cons_cons, List.zip_nil_left, List.zip_nil_right, sTry_k, tK_nx, tK_rt, tK_bk, tK_ct, tK_ex, catch_nil, catch_cons, caK_t, caK_f, noX_nx, noX_rt, noX_bk, noX_ct, oSeq_k, oK_nx, oK_rt, oK_bk, oK_ct, oK_ex, oK_st, oB_ok, oB_exc, Res.bind_ok, Res.bind_exc, Res.bind_stuck, sSet, sIf_k, oIf_t, oIf_f, sRet, sRetV, sRetN, sDrop, sFrz, sApp_k, appK_v, appK_o, sExt_k, extK_v, extK_o, sClr, onL, sLend, sCallO, onO, oBs_k, callO_k, cK_s, bK_nx, bK_rt, backO, argO, Option.map_some, sUnp_k, unpK_v, setAll, vals, sFor_k, forK_ok, whK_t, whK_f, whN_nx, whN_ct, whN_bk, whN_rt, whN_ex, eVar, eArgs_nil, eArgs_cons, eTup_k, eLst_k, tupK_s, lstK_s, frozs_nil, frozs_cons, froK_s, froz_v, froz_o, eAnd_k, eOr_k, eNot_k, eIte_k, andK_t, andK_f, orK_t, orK_f, iteK_t, iteK_f, notK_b, eNeg, neg_i, eBin, bin_add, bin_sub, bin_mul, bin_div, bin_mod, bin_pow, add_i, add_s, add_oo, add_ov, add_vo, add_vv, sub_i, mul_r, mul_l, mul_s, mul_o, div_p, mod_p, pow_p, eCmp, c_eq, c_ne, c_lt, c_le, c_gt, c_ge, c_is, c_in, c_nin, eq_ii, eq_ss, eq_bb, ne_ii, ne_ss, ne_bb, lt_ii, le_ii, gt_ii, ge_ii, in_ss, nin_ss, eIx, optR_some, ix_lv, ix_lo, ix_lb, ix_tv, ix_tb, ix_s, eSl_k, sl_s, sl_lv, sl_lo, sl_lb, sl_tv, part_none, part_some, pK_i, eBlt_k, len_s, len_lv, len_lo, len_lb, len_tv, len_tb, str_p, int_i, int_b, list_lv, list_lo, list_lb, list_tv, tuple_lv, tuple_lo, tuple_lb, tuple_tv, all_o, any_o, sum_o, min_i, max_i, eIsi_k, isi_bb, isi_ii, isi_bi, isi_ss, isi_st, isi_tt, isi_ts, isi_it, isi_ti, isi_si, isi_ll, isi_lb, isi_lo, eCall_k, arg_v, arg_o, arg_b, eJoin_k, joinX_s, join_o, joinK_s, eGlo, setR_f, setR_fo, setR_t, eSeqX_k, eSeq_k, it_lv, it_lo, it_tv, it_s, id_lv, id_lo, id_lb, id_tv, id_tb, id_s, eRngV_k, rng_1, rng_2, eLc_k, lcK_ok, ofD, Bt.fn, Ty.T, List.map_cons, List.map_nil, List.head?_cons, List.head?_nil, List.length_cons, List.length_nil, List.cons_append, List.nil_append, List.replicate_succ, List.replicate_zero, List.getElem?_cons_zero, List.getElem?_cons_succ, List.set_cons_zero, List.set_cons_succ, Nat.reduceSub, Nat.reduceAdd, Nat.zero_add, if_true, Bool.false_eq_true, if_false, Bool.and_true, Bool.true_and, Nat.zero_le, decide_true, Bool.or_true, Bool.true_or, decide_false, Int.reduceLT, Int.reduceLE, Int.reduceMul, Int.reduceAdd, Int.reduceSub, Int.reduceNeg, Int.reduceToNat, Int.reduceMod, Int.reduceDiv, Nat.reduceLeDiff, Nat.reduceLT, Bool.not_true, Bool.not_false, Bool.and_self, beq_self_eq_true, Int.reducePow, Nat.reducePow, Int.reduceBEq, atI0, Rw.d, Ot.d, z3]
    · refine ⟨⟨w2, c / 3 * 982451653 % 1000000000000000000, .i (c / 3 * 48271 % v)⟩, .inl ⟨_, rfl, h2⟩, ?_⟩
      simp only [dn_get1, dn_dct0, dn_din, ds_dput, dk_s, dk_i, dk_t0, dk_t1, dk_t2, dk_t3, sDput_k, dputA_d, dputC_k, eDin_k, din_v, din_o, din_b, ain_s, anin_s, dinC_t, dinC_f, ix_dv, ix_do, ix_db, ixC_k, getO_some, getO_none, getC_k, eGet1_k, eGet2_k, get1_v, get1_o, get1_b, get2_v, get2_o, get2_b, runD, runO, st0, run_rn, runO_rn, fin_nx, fin_rt, fin_ex, denB_nil, denB_cons, dens, dn_var, dn_cst, dn_glo, dn_tup, dn_lst, dn_and, dn_or, dn_not, dn_neg, dn_bin, dn_cmp, dn_chn, dn_ite, dn_ix, dn_sl, dn_blt, dn_isi, dn_join, dn_get2, dn_call, dn_rng, dn_lc, ds_pass, ds_brk, ds_cnt, ds_drop, ds_ret, ds_retN, ds_retV, ds_set, ds_unp, ds_ite, ds_fore, ds_whl, ds_app, ds_ext, ds_clr, ds_frz, ds_lend, ds_callO, ds_raise, ds_tryM, denL, List.zip_cons_cons, List.zip_nil_left, List.zip_nil_right, sTry_k, tK_nx, tK_rt, tK_bk, tK_ct, tK_ex, catch_nil, catch_cons, caK_t, caK_f, noX_nx, noX_rt, noX_bk, noX_ct, oSeq_k, oK_nx, oK_rt, oK_bk, oK_ct, oK_ex, oK_st, oB_ok, oB_exc, Res.bind_ok, Res.bind_exc, Res.bind_stuck, sSet, sIf_k, oIf_t, oIf_f, sRet, sRetV, sRetN, sDrop, sFrz, sApp_k, appK_v, appK_o, sExt_k, extK_v, extK_o, sClr, onL, sLend, sCallO, onO, oBs_k, callO_k, cK_s, bK_nx, bK_rt, backO, argO, Option.map_some, sUnp_k, unpK_v, setAll, vals, sFor_k, forK_ok, whK_t, whK_f, whN_nx, whN_ct, whN_bk, whN_rt, whN_ex, eVar, eArgs_nil, eArgs_cons, eTup_k, eLst_k, tupK_s, lstK_s, frozs_nil, frozs_cons, froK_s, froz_v, froz_o, eAnd_k, eOr_k, eNot_k, eIte_k, andK_t, andK_f, orK_t, orK_f, iteK_t, iteK_f, notK_b, eNeg, neg_i, eBin, bin_add, bin_sub, bin_mul, bin_div, bin_mod, bin_pow, add_i, add_s, add_oo, add_ov, add_vo, add_vv, sub_i, mul_r, mul_l, mul_s, mul_o, div_p, mod_p, pow_p, eCmp, c_eq, c_ne, c_lt, c_le, c_gt, c_ge, c_is, c_in, c_nin, eq_ii, eq_ss, eq_bb, ne_ii, ne_ss, ne_bb, lt_ii, le_ii, gt_ii, ge_ii, in_ss, nin_ss, eIx, optR_some, ix_lv, ix_lo, ix_lb, ix_tv, ix_tb, ix_s, eSl_k, sl_s, sl_lv, sl_lo, sl_lb, sl_tv, part_none, part_some, pK_i, eBlt_k, len_s, len_lv, len_lo, len_lb, len_tv, len_tb, str_p, int_i, int_b, list_lv, list_lo, list_lb, list_tv, tuple_lv, tuple_lo, tuple_lb, tuple_tv, all_o, any_o, sum_o, min_i, max_i, eIsi_k, isi_bb, isi_ii, isi_bi, isi_ss, isi_st, isi_tt, isi_ts, isi_it, isi_ti, isi_si, isi_ll, isi_lb, isi_lo, eCall_k, arg_v, arg_o, arg_b, eJoin_k, joinX_s, join_o, joinK_s, eGlo, setR_f, setR_fo, setR_t, eSeqX_k, eSeq_k, it_lv, it_lo, it_tv, it_s, id_lv, id_lo, id_lb, id_tv, id_tb, id_s, eRngV_k, rng_1, rng_2, eLc_k, lcK_ok, ofD, Bt.fn, Ty.T, List.map_cons, List.map_nil, List.head?_cons, List.head?_nil, List.length_cons, List.length_nil, List.cons_append, List.nil_append, List.replicate_succ, List.replicate_zero, List.getElem?_cons_zero, List.getElem?_cons_succ, List.set_cons_zero, List.set_cons_succ, Nat.reduceSub, Nat.reduceAdd, Nat.zero_add, if_true, Bool.false_eq_true, if_false, Bool.and_true, Bool.true_and, Nat.zero_le, decide_true, Bool.or_true, Bool.true_or, decide_false, Int.reduceLT, Int.reduceLE, Int.reduceMul, Int.reduceAdd, Int.reduceSub, Int.reduceNeg, Int.reduceToNat, Int.reduceMod, Int.reduceDiv, Nat.reduceLeDiff, Nat.reduceLT, Bool.not_true, Bool.not_false, Bool.and_self, beq_self_eq_true, Int.reducePow, Nat.reducePow, Int.reduceBEq, d__law_row, b1, hv, v0, z2, z3]
      simp only [h, dn_get1, dn_dct0, dn_din, ds_dput, dk_s, dk_i, dk_t0, dk_t1, dk_t2, dk_t3, sDput_k, dputA_d, dputC_k, eDin_k, din_v, din_o, din_b, ain_s, anin_s, dinC_t, dinC_f, ix_dv, ix_do, ix_db, ixC_k, getO_some, getO_none, getC_k, eGet1_k, eGet2_k, get1_v, get1_o, get1_b, get2_v, get2_o, get2_b, runD, runO, st0, run_rn, runO_rn, fin_nx, fin_rt, fin_ex, denB_nil, denB_cons, dens, dn_var, dn_cst, dn_glo, dn_tup, dn_lst, dn_and, dn_or, dn_not, dn_neg, dn_bin, dn_cmp, dn_chn, dn_ite, dn_ix, dn_sl, dn_blt, dn_isi, dn_join, dn_get2, dn_call, dn_rng, dn_lc, ds_pass, ds_brk, ds_cnt, ds_drop, ds_ret, ds_retN, ds_retV, ds_set, ds_unp, ds_ite, ds_fore, ds_whl, ds_app, ds_ext, ds_clr, ds_frz, ds_lend, ds_callO, ds_raise, ds_tryM, denL, List.zip_cons_cons, List.zip_nil_left, List.zip_nil_right, sTry_k, tK_nx, tK_rt, tK_bk, tK_ct, tK_ex, catch_nil, catch_cons, caK_t, caK_f, noX_nx, noX_rt, noX_bk, noX_ct, oSeq_k, oK_nx, oK_rt, oK_bk, oK_ct, oK_ex, oK_st, oB_ok, oB_exc, Res.bind_ok, Res.bind_exc, Res.bind_stuck, sSet, sIf_k, oIf_t, oIf_f, sRet, sRetV, sRetN, sDrop, sFrz, sApp_k, appK_v, appK_o, sExt_k, extK_v, extK_o, sClr, onL, sLend, sCallO, onO, oBs_k, callO_k, cK_s, bK_nx, bK_rt, backO, argO, Option.map_some, sUnp_k, unpK_v, setAll, vals, sFor_k, forK_ok, whK_t, whK_f, whN_nx, whN_ct, whN_bk, whN_rt, whN_ex, eVar, eArgs_nil, eArgs_cons, eTup_k, eLst_k, tupK_s, lstK_s, frozs_nil, frozs_cons, froK_s, froz_v, froz_o, eAnd_k, eOr_k, eNot_k, eIte_k, andK_t, andK_f, orK_t, orK_f, iteK_t, iteK_f, notK_b, eNeg, neg_i, eBin, bin_add, bin_sub, bin_mul, bin_div, bin_mod, bin_pow, add_i, add_s, add_oo, add_ov, add_vo, add_vv, sub_i, mul_r, mul_l, mul_s, mul_o, div_p, mod_p, pow_p, eCmp, c_eq, c_ne, c_lt, c_le, c_gt, c_ge, c_is, c_in, c_nin, eq_ii, eq_ss, eq_bb, ne_ii, ne_ss, ne_bb, lt_ii, le_ii, gt_ii, ge_ii, in_ss, nin_ss, eIx, optR_some, ix_lv, ix_lo, ix_lb, ix_tv, ix_tb, ix_s, eSl_k, sl_s, sl_lv, sl_lo, sl_lb, sl_tv, part_none, part_some, pK_i, eBlt_k, len_s, len_lv, len_lo, len_lb, len_tv, len_tb, str_p, int_i, int_b, list_lv, list_lo, list_lb, list_tv, tuple_lv, tuple_lo, tuple_lb, tuple_tv, all_o, any_o, sum_o, min_i, max_i, eIsi_k, isi_bb, isi_ii, isi_bi, isi_ss, isi_st, isi_tt, isi_ts, isi_it, isi_ti, isi_si, isi_ll, isi_lb, isi_lo, eCall_k, arg_v, arg_o, arg_b, eJoin_k, joinX_s, join_o, joinK_s, eGlo, setR_f, setR_fo, setR_t, eSeqX_k, eSeq_k, it_lv, it_lo, it_tv, it_s, id_lv, id_lo, id_lb, id_tv, id_tb, id_s, eRngV_k, rng_1, rng_2, eLc_k, lcK_ok, ofD, Bt.fn, Ty.T, List.map_cons, List.map_nil, List.head?_cons, List.head?_nil, List.length_cons, List.length_nil, List.cons_append, List.nil_append, List.replicate_succ, List.replicate_zero, List.getElem?_cons_zero, List.getElem?_cons_succ, List.set_cons_zero, List.set_cons_succ, Nat.reduceSub, Nat.reduceAdd, Nat.zero_add, if_true, Bool.false_eq_true, if_false, Bool.and_true, Bool.true_and, Nat.zero_le, decide_true, Bool.or_true, Bool.true_or, decide_false, Int.reduceLT, Int.reduceLE, Int.reduceMul, Int.reduceAdd, Int.reduceSub, Int.reduceNeg, Int.reduceToNat, Int.reduceMod, Int.reduceDiv, Nat.reduceLeDiff, Nat.reduceLT, Bool.not_true, Bool.not_false, Bool.and_self, beq_self_eq_true, Int.reducePow, Nat.reducePow, Int.reduceBEq, atI2, Rw.d, Ot.d, z3]
  · refine ⟨⟨w1, c / 3 * 982451653 % 1000000000000000000, .p (c / 3 * 48271 % v) (c / 6 % 4)⟩, .inr ⟨_, _, rfl, rfl⟩, ?_⟩
    simp only [dn_get1, dn_dct0, dn_din, ds_dput, dk_s, dk_i, dk_t0, dk_t1, dk_t2, dk_t3, sDput_k, dputA_d, dputC_k, eDin_k, din_v, din_o, din_b, ain_s, anin_s, dinC_t, dinC_f, ix_dv, ix_do, ix_db, ixC_k, getO_some, getO_none, getC_k, eGet1_k, eGet2_k, get1_v, get1_o, get1_b, get2_v, get2_o, get2_b, runD, runO, st0, run_rn, runO_rn, fin_nx, fin_rt, fin_ex, denB_nil, denB_cons, dens, dn_var, dn_cst, dn_glo, dn_tup, dn_lst, dn_and, dn_or, dn_not, dn_neg, dn_bin, dn_cmp, dn_chn, dn_ite, dn_ix, dn_sl, dn_blt, dn_isi, dn_join, dn_get2, dn_call, dn_rng, dn_lc, ds_pass, ds_brk, ds_cnt, ds_drop, ds_ret, ds_retN, ds_retV, ds_set, ds_unp, ds_ite, ds_fore, ds_whl, ds_app, ds_ext, ds_clr, ds_frz, ds_lend, ds_callO, ds_raise, ds_tryM, denL, List.zip_cons_cons, List.zip_nil_left, List.zip_nil_right, sTry_k, tK_nx, tK_rt, tK_bk, tK_ct, tK_ex, catch_nil, catch_cons, caK_t, caK_f, noX_nx, noX_rt, noX_bk, noX_ct, oSeq_k, oK_nx, oK_rt, oK_bk, oK_ct, oK_ex, oK_st, oB_ok, oB_exc, Res.bind_ok, Res.bind_exc, Res.bind_stuck, sSet, sIf_k, oIf_t, oIf_f, sRet, sRetV, sRetN, sDrop, sFrz, sApp_k, appK_v, appK_o, sExt_k, extK_v, extK_o, sClr, onL, sLend, sCallO, onO, oBs_k, callO_k, cK_s, bK_nx, bK_rt, backO, argO, Option.map_some, sUnp_k, unpK_v, setAll, vals, sFor_k, forK_ok, whK_t, whK_f, whN_nx, whN_ct, whN_bk, whN_rt, whN_ex, eVar, eArgs_nil, eArgs_cons, eTup_k, eLst_k, tupK_s, lstK_s, frozs_nil, frozs_cons, froK_s, froz_v, froz_o, eAnd_k, eOr_k, eNot_k, eIte_k, andK_t, andK_f, orK_t, orK_f, iteK_t, iteK_f, notK_b, eNeg, neg_i, eBin, bin_add, bin_sub, bin_mul, bin_div, bin_mod, bin_pow, add_i, add_s, add_oo, add_ov, add_vo, add_vv, sub_i, mul_r, mul_l, mul_s, mul_o, div_p, mod_p, pow_p, eCmp, c_eq, c_ne, c_lt, c_le, c_gt, c_ge, c_is, c_in, c_nin, eq_ii, eq_ss, eq_bb, ne_ii, ne_ss, ne_bb, lt_ii, le_ii, gt_ii, ge_ii, in_ss, nin_ss, eIx, optR_some, ix_lv, ix_lo, ix_lb, ix_tv, ix_tb, ix_s, eSl_k, sl_s, sl_lv, sl_lo, sl_lb, sl_tv, part_none, part_some, pK_i, eBlt_k, len_s, len_lv, len_lo, len_lb, len_tv, len_tb, str_p, int_i, int_b, list_lv, list_lo, list_lb, list_tv, tuple_lv, tuple_lo, tuple_lb, tuple_tv, all_o, any_o, sum_o, min_i, max_i, eIsi_k, isi_bb, isi_ii, isi_bi, isi_ss, isi_st, isi_tt, isi_ts, isi_it, isi_ti, isi_si, isi_ll, isi_lb, isi_lo, eCall_k, arg_v, arg_o, arg_b, eJoin_k, joinX_s, join_o, joinK_s, eGlo, setR_f, setR_fo, setR_t, eSeqX_k, eSeq_k, it_lv, it_lo, it_tv, it_s, id_lv, id_lo, id_lb, id_tv, id_tb, id_s, eRngV_k, rng_1, rng_2, eLc_k, lcK_ok, ofD, Bt.fn, Ty.T, List.map_cons, List.map_nil, List.head?_cons, List.head?_nil, List.length_cons, List.length_nil, List.cons_append, List.nil_append, List.replicate_succ, List.replicate_zero, List.getElem?_cons_zero, List.getElem?_cons_succ, List.set_cons_zero, List.set_cons_succ, Nat.reduceSub, Nat.reduceAdd, Nat.zero_add, if_true, Bool.false_eq_true, if_false, Bool.and_true, Bool.true_and, Nat.zero_le, decide_true, Bool.or_true, Bool.true_or, decide_false, Int.reduceLT, Int.reduceLE, Int.reduceMul, Int.reduceAdd, Int.reduceSub, Int.reduceNeg, Int.reduceToNat, Int.reduceMod, Int.reduceDiv, Nat.reduceLeDiff, Nat.reduceLT, Bool.not_true, Bool.not_false, Bool.and_self, beq_self_eq_true, Int.reducePow, Nat.reducePow, Int.reduceBEq, d__law_row, b1, hv, v0, z2, z3, atI1, Rw.d, Ot.d]
theorem near_eq (h0 : w0 ≠ w1) (h2 : w2 ≠ w1) (n : Nat) (c : Int) (r : Rw) (hr : r.ok w0 w1 w2) : ∃ r' : Rw, rn T M (n + 1) 4 [.val (.int c), .val r.d, .val (.lst [.str w0, .str w1, .str w2])] = .ok (.val r'.d) := by
  have z2 : (2 : Nat) ≤ LIM := by decide
  have z3 : (3 : Nat) ≤ LIM := by decide
  obtain ⟨w, a, o⟩ := r
  rw [rn_at (F := d__law_near) rfl]
  have d5 : (2 : Nat) < 7 := by decide
  rcases hr with ⟨b, rfl, hw⟩ | ⟨b, b', rfl, rfl⟩
  · have e1 : (w == w1) = false := by simpa using hw
    cases g3 : (c % 6 == 3)
    · cases g4 : (c % 6 == 4)
      · cases g5 : (c % 6 == 5)
        · exact ⟨⟨w, a, .i b⟩, by simp only [dn_get1, dn_dct0, dn_din, ds_dput, dk_s, dk_i, dk_t0, dk_t1, dk_t2, dk_t3, sDput_k, dputA_d, dputC_k, eDin_k, din_v, din_o, din_b, ain_s, anin_s, dinC_t, dinC_f, ix_dv, ix_do, ix_db, ixC_k, getO_some, getO_none, getC_k, eGet1_k, eGet2_k, get1_v, get1_o, get1_b, get2_v, get2_o, get2_b, runD, runO, st0, run_rn, runO_rn, fin_nx, fin_rt, fin_ex, denB_nil, denB_cons, dens, dn_var, dn_cst, dn_glo, dn_tup, dn_lst, dn_and, dn_or, dn_not, dn_neg, dn_bin, dn_cmp, dn_chn, dn_ite, dn_ix, dn_sl, dn_blt, dn_isi, dn_join, dn_get2, dn_call, dn_rng, dn_lc, ds_pass, ds_brk, ds_cnt, ds_drop, ds_ret, ds_retN, ds_retV, ds_set, ds_unp, ds_ite, ds_fore, ds_whl, ds_app, ds_ext, ds_clr, ds_frz, ds_lend, ds_callO, ds_raise, ds_tryM, denL, List.zip_cons_cons, List.zip_nil_left, List.zip_nil_right, sTry_k, tK_nx, tK_rt, tK_bk, tK_ct, tK_ex, catch_nil, catch_cons, caK_t, caK_f, noX_nx, noX_rt, noX_bk, noX_ct, oSeq_k, oK_nx, oK_rt, oK_bk, oK_ct, oK_ex, oK_st, oB_ok, oB_exc, Res.bind_ok, Res.bind_exc, Res.bind_stuck, sSet, sIf_k, oIf_t, oIf_f, sRet, sRetV, sRetN, sDrop, sFrz, sApp_k, appK_v, appK_o, sExt_k, extK_v, extK_o, sClr, onL, sLend, sCallO, onO, oBs_k, callO_k, cK_s, bK_nx, bK_rt, backO, argO, Option.map_some, sUnp_k, unpK_v, setAll, vals, sFor_k, forK_ok, whK_t, whK_f, whN_nx, whN_ct, whN_bk, whN_rt, whN_ex, eVar, eArgs_nil, eArgs_cons, eTup_k, eLst_k, tupK_s, lstK_s, frozs_nil, frozs_cons, froK_s, froz_v, froz_o, eAnd_k, eOr_k, eNot_k, eIte_k, andK_t, andK_f, orK_t, orK_f, iteK_t, iteK_f, notK_b, eNeg, neg_i, eBin, bin_add, bin_sub, bin_mul, bin_div, bin_mod, bin_pow, add_i, add_s, add_oo, add_ov, add_vo, add_vv, sub_i, mul_r, mul_l, mul_s, mul_o, div_p, mod_p, pow_p, eCmp, c_eq, c_ne, c_lt, c_le, c_gt, c_ge, c_is, c_in, c_nin, eq_ii, eq_ss, eq_bb, ne_ii, ne_ss, ne_bb, lt_ii, le_ii, gt_ii, ge_ii, in_ss, nin_ss, eIx, optR_some, ix_lv, ix_lo, ix_lb, ix_tv, ix_tb, ix_s, eSl_k, sl_s, sl_lv, sl_lo, sl_lb, sl_tv, part_none, part_some, pK_i, eBlt_k, len_s, len_lv, len_lo, len_lb, len_tv, len_tb, str_p, int_i, int_b, list_lv, list_lo, list_lb, list_tv, tuple_lv, tuple_lo, tuple_lb, tuple_tv, all_o, any_o, sum_o, min_i, max_i, eIsi_k, isi_bb, isi_ii, isi_bi, isi_ss, isi_st, isi_tt, isi_ts, isi_it, isi_ti, isi_si, isi_ll, isi_lb, isi_lo, eCall_k, arg_v, arg_o, arg_b, eJoin_k, joinX_s, join_o, joinK_s, eGlo, setR_f, setR_fo, setR_t, eSeqX_k, eSeq_k, it_lv, it_lo, it_tv, it_s, id_lv, id_lo, id_lb, id_tv, id_tb, id_s, eRngV_k, rng_1, rng_2, eLc_k, lcK_ok, ofD, Bt.fn, Ty.T, List.map_cons, List.map_nil, List.head?_cons, List.head?_nil, List.length_cons, List.length_nil, List.cons_append, List.nil_append, List.replicate_succ, List.replicate_zero, List.getElem?_cons_zero, List.getElem?_cons_succ, List.set_cons_zero, List.set_cons_succ, Nat.reduceSub, Nat.reduceAdd, Nat.zero_add, if_true, Bool.false_eq_true, if_false, Bool.and_true, Bool.true_and, Nat.zero_le, decide_true, Bool.or_true, Bool.true_or, decide_false, Int.reduceLT, Int.reduceLE, Int.reduceMul, Int.reduceAdd, Int.reduceSub, Int.reduceNeg, Int.reduceToNat, Int.reduceMod, Int.reduceDiv, Nat.reduceLeDiff, Nat.reduceLT, Bool.not_true, Bool.not_false, Bool.and_self, beq_self_eq_true, Int.reducePow, Nat.reducePow, Int.reduceBEq, d__law_near, Rw.d, Ot.d, g3, g4, g5, e1, atI0, atI1, atI2, z2, z3]⟩
        · exact ⟨⟨w, a, .i (b + 1)⟩, by simp only [dn_get1, dn_dct0, dn_din, ds_dput, dk_s, dk_i, dk_t0, dk_t1, dk_t2, dk_t3, sDput_k, dputA_d, dputC_k, eDin_k, din_v, din_o, din_b, ain_s, anin_s, dinC_t, dinC_f, ix_dv, ix_do, ix_db, ixC_k, getO_some, getO_none, getC_k, eGet1_k, eGet2_k, get1_v, get1_o, get1_b, get2_v, get2_o, get2_b, runD, runO, st0, run_rn, runO_rn, fin_nx, fin_rt, fin_ex, denB_nil, denB_cons, dens, dn_var, dn_cst, dn_glo, dn_tup, dn_lst, dn_and, dn_or, dn_not, dn_neg, dn_bin, dn_cmp, dn_chn, dn_ite, dn_ix, dn_sl, dn_blt, dn_isi, dn_join, dn_get2, dn_call, dn_rng, dn_lc, ds_pass, ds_brk, ds_cnt, ds_drop, ds_ret, ds_retN, ds_retV, ds_set, ds_unp, ds_ite, ds_fore, ds_whl, ds_app, ds_ext, ds_clr, ds_frz, ds_lend, ds_callO, ds_raise, ds_tryM, denL, List.zip_cons_cons, List.zip_nil_left, List.zip_nil_right, sTry_k, tK_nx, tK_rt, tK_bk, tK_ct, tK_ex, catch_nil, catch_cons, caK_t, caK_f, noX_nx, noX_rt, noX_bk, noX_ct, oSeq_k, oK_nx, oK_rt, oK_bk, oK_ct, oK_ex, oK_st, oB_ok, oB_exc, Res.bind_ok, Res.bind_exc, Res.bind_stuck, sSet, sIf_k, oIf_t, oIf_f, sRet, sRetV, sRetN, sDrop, sFrz, sApp_k, appK_v, appK_o, sExt_k, extK_v, extK_o, sClr, onL, sLend, sCallO, onO, oBs_k, callO_k, cK_s, bK_nx, bK_rt, backO, argO, Option.map_some, sUnp_k, unpK_v, setAll, vals, sFor_k, forK_ok, whK_t, whK_f, whN_nx, whN_ct, whN_bk, whN_rt, whN_ex, eVar, eArgs_nil, eArgs_cons, eTup_k, eLst_k, tupK_s, lstK_s, frozs_nil, frozs_cons, froK_s, froz_v, froz_o, eAnd_k, eOr_k, eNot_k, eIte_k, andK_t, andK_f, orK_t, orK_f, iteK_t, iteK_f, notK_b, eNeg, neg_i, eBin, bin_add, bin_sub, bin_mul, bin_div, bin_mod, bin_pow, add_i, add_s, add_oo, add_ov, add_vo, add_vv, sub_i, mul_r, mul_l, mul_s, mul_o, div_p, mod_p, pow_p, eCmp, c_eq, c_ne, c_lt, c_le, c_gt, c_ge, c_is, c_in, c_nin, eq_ii, eq_ss, eq_bb, ne_ii, ne_ss, ne_bb, lt_ii, le_ii, gt_ii, ge_ii, in_ss, nin_ss, eIx, optR_some, ix_lv, ix_lo, ix_lb, ix_tv, ix_tb, ix_s, eSl_k, sl_s, sl_lv, sl_lo, sl_lb, sl_tv, part_none, part_some, pK_i, eBlt_k, len_s, len_lv, len_lo, len_lb, len_tv, len_tb, str_p, int_i, int_b, list_lv, list_lo, list_lb, list_tv, tuple_lv, tuple_lo, tuple_lb, tuple_tv, all_o, any_o, sum_o, min_i, max_i, eIsi_k, isi_bb, isi_ii, isi_bi, isi_ss, isi_st, isi_tt, isi_ts, isi_it, isi_ti, isi_si, isi_ll, isi_lb, isi_lo, eCall_k, arg_v, arg_o, arg_b, eJoin_k, joinX_s, join_o, joinK_s, eGlo, setR_f, setR_fo, setR_t, eSeqX_k, eSeq_k, it_lv, it_lo, it_tv, it_s, id_lv, id_lo, id_lb, id_tv, id_tb, id_s, eRngV_k, rng_1, rng_2, eLc_k, lcK_ok, ofD, Bt.fn, Ty.T, List.map_cons, List.map_nil, List.head?_cons, List.head?_nil, List.length_cons, List.length_nil, List.cons_append, List.nil_append, List.replicate_succ, List.replicate_zero, List.getElem?_cons_zero, List.getElem?_cons_succ, List.set_cons_zero, List.set_cons_succ, Nat.reduceSub, Nat.reduceAdd, Nat.zero_add, if_true, Bool.false_eq_true, if_false, Bool.and_true, Bool.true_and, Nat.zero_le, decide_true, Bool.or_true, Bool.true_or, decide_false, Int.reduceLT, Int.reduceLE, Int.reduceMul, Int.reduceAdd, Int.reduceSub, Int.reduceNeg, Int.reduceToNat, Int.reduceMod, Int.reduceDiv, Nat.reduceLeDiff, Nat.reduceLT, Bool.not_true, Bool.not_false, Bool.and_self, beq_self_eq_true, Int.reducePow, Nat.reducePow, Int.reduceBEq, d__law_near, Rw.d, Ot.d, g3, g4, g5, e1, atI0, atI1, atI2, z2, z3]⟩
      · cases g0 : (w == w0)
        · exact ⟨⟨w0, a, .i b⟩, by simp only [dn_get1, dn_dct0, dn_din, ds_dput, dk_s, dk_i, dk_t0, dk_t1, dk_t2, dk_t3, sDput_k, dputA_d, dputC_k, eDin_k, din_v, din_o, din_b, ain_s, anin_s, dinC_t, dinC_f, ix_dv, ix_do, ix_db, ixC_k, getO_some, getO_none, getC_k, eGet1_k, eGet2_k, get1_v, get1_o, get1_b, get2_v, get2_o, get2_b, runD, runO, st0, run_rn, runO_rn, fin_nx, fin_rt, fin_ex, denB_nil, denB_cons, dens, dn_var, dn_cst, dn_glo, dn_tup, dn_lst, dn_and, dn_or, dn_not, dn_neg, dn_bin, dn_cmp, dn_chn, dn_ite, dn_ix, dn_sl, dn_blt, dn_isi, dn_join, dn_get2, dn_call, dn_rng, dn_lc, ds_pass, ds_brk, ds_cnt, ds_drop, ds_ret, ds_retN, ds_retV, ds_set, ds_unp, ds_ite, ds_fore, ds_whl, ds_app, ds_ext, ds_clr, ds_frz, ds_lend, ds_callO, ds_raise, ds_tryM, denL, List.zip_cons_cons, List.zip_nil_left, List.zip_nil_right, sTry_k, tK_nx, tK_rt, tK_bk, tK_ct, tK_ex, catch_nil, catch_cons, caK_t, caK_f, noX_nx, noX_rt, noX_bk, noX_ct, oSeq_k, oK_nx, oK_rt, oK_bk, oK_ct, oK_ex, oK_st, oB_ok, oB_exc, Res.bind_ok, Res.bind_exc, Res.bind_stuck, sSet, sIf_k, oIf_t, oIf_f, sRet, sRetV, sRetN, sDrop, sFrz, sApp_k, appK_v, appK_o, sExt_k, extK_v, extK_o, sClr, onL, sLend, sCallO, onO, oBs_k, callO_k, cK_s, bK_nx, bK_rt, backO, argO, Option.map_some, sUnp_k, unpK_v, setAll, vals, sFor_k, forK_ok, whK_t, whK_f, whN_nx, whN_ct, whN_bk, whN_rt, whN_ex, eVar, eArgs_nil, eArgs_cons, eTup_k, eLst_k, tupK_s, lstK_s, frozs_nil, frozs_cons, froK_s, froz_v, froz_o, eAnd_k, eOr_k, eNot_k, eIte_k, andK_t, andK_f, orK_t, orK_f, iteK_t, iteK_f, notK_b, eNeg, neg_i, eBin, bin_add, bin_sub, bin_mul, bin_div, bin_mod, bin_pow, add_i, add_s, add_oo, add_ov, add_vo, add_vv, sub_i, mul_r, mul_l, mul_s, mul_o, div_p, mod_p, pow_p, eCmp, c_eq, c_ne, c_lt, c_le, c_gt, c_ge, c_is, c_in, c_nin, eq_ii, eq_ss, eq_bb, ne_ii, ne_ss, ne_bb, lt_ii, le_ii, gt_ii, ge_ii, in_ss, nin_ss, eIx, optR_some, ix_lv, ix_lo, ix_lb, ix_tv, ix_tb, ix_s, eSl_k, sl_s, sl_lv, sl_lo, sl_lb, sl_tv, part_none, part_some, pK_i, eBlt_k, len_s, len_lv, len_lo, len_lb, len_tv, len_tb, str_p, int_i, int_b, list_lv, list_lo, list_lb, list_tv, tuple_lv, tuple_lo, tuple_lb, tuple_tv, all_o, any_o, sum_o, min_i, max_i, eIsi_k, isi_bb, isi_ii, isi_bi, isi_ss, isi_st, isi_tt, isi_ts, isi_it, isi_ti, isi_si, isi_ll, isi_lb, isi_lo, eCall_k, arg_v, arg_o, arg_b, eJoin_k, joinX_s, join_o, joinK_s, eGlo, setR_f, setR_fo, setR_t, eSeqX_k, eSeq_k, it_lv, it_lo, it_tv, it_s, id_lv, id_lo, id_lb, id_tv, id_tb, id_s, eRngV_k, rng_1, rng_2, eLc_k, lcK_ok, ofD, Bt.fn, Ty.T, List.map_cons, List.map_nil, List.head?_cons, List.head?_nil, List.length_cons, List.length_nil, List.cons_append, List.nil_append, List.replicate_succ, List.replicate_zero, List.getElem?_cons_zero, List.getElem?_cons_succ, List.set_cons_zero, List.set_cons_succ, Nat.reduceSub, Nat.reduceAdd, Nat.zero_add, if_true, Bool.false_eq_true, if_false, Bool.and_true, Bool.true_and, Nat.zero_le, decide_true, Bool.or_true, Bool.true_or, decide_false, Int.reduceLT, Int.reduceLE, Int.reduceMul, Int.reduceAdd, Int.reduceSub, Int.reduceNeg, Int.reduceToNat, Int.reduceMod, Int.reduceDiv, Nat.reduceLeDiff, Nat.reduceLT, Bool.not_true, Bool.not_false, Bool.and_self, beq_self_eq_true, Int.reducePow, Nat.reducePow, Int.reduceBEq, d__law_near, Rw.d, Ot.d, g3, g4, g0, e1, atI0, atI1, atI2, z2, z3]⟩
        · exact ⟨⟨w2, a, .i b⟩, by simp only [dn_get1, dn_dct0, dn_din, ds_dput, dk_s, dk_i, dk_t0, dk_t1, dk_t2, dk_t3, sDput_k, dputA_d, dputC_k, eDin_k, din_v, din_o, din_b, ain_s, anin_s, dinC_t, dinC_f, ix_dv, ix_do, ix_db, ixC_k, getO_some, getO_none, getC_k, eGet1_k, eGet2_k, get1_v, get1_o, get1_b, get2_v, get2_o, get2_b, runD, runO, st0, run_rn, runO_rn, fin_nx, fin_rt, fin_ex, denB_nil, denB_cons, dens, dn_var, dn_cst, dn_glo, dn_tup, dn_lst, dn_and, dn_or, dn_not, dn_neg, dn_bin, dn_cmp, dn_chn, dn_ite, dn_ix, dn_sl, dn_blt, dn_isi, dn_join, dn_get2, dn_call, dn_rng, dn_lc, ds_pass, ds_brk, ds_cnt, ds_drop, ds_ret, ds_retN, ds_retV, ds_set, ds_unp, ds_ite, ds_fore, ds_whl, ds_app, ds_ext, ds_clr, ds_frz, ds_lend, ds_callO, ds_raise, ds_tryM, denL, List.zip_cons_cons, List.zip_nil_left, List.zip_nil_right, sTry_k, tK_nx, tK_rt, tK_bk, tK_ct, tK_ex, catch_nil, catch_cons, caK_t, caK_f, noX_nx, noX_rt, noX_bk, noX_ct, oSeq_k, oK_nx, oK_rt, oK_bk, oK_ct, oK_ex, oK_st, oB_ok, oB_exc, Res.bind_ok, Res.bind_exc, Res.bind_stuck, sSet, sIf_k, oIf_t, oIf_f, sRet, sRetV, sRetN, sDrop, sFrz, sApp_k, appK_v, appK_o, sExt_k, extK_v, extK_o, sClr, onL, sLend, sCallO, onO, oBs_k, callO_k, cK_s, bK_nx, bK_rt, backO, argO, Option.map_some, sUnp_k, unpK_v, setAll, vals, sFor_k, forK_ok, whK_t, whK_f, whN_nx, whN_ct, whN_bk, whN_rt, whN_ex, eVar, eArgs_nil, eArgs_cons, eTup_k, eLst_k, tupK_s, lstK_s, frozs_nil, frozs_cons, froK_s, froz_v, froz_o, eAnd_k, eOr_k, eNot_k, eIte_k, andK_t, andK_f, orK_t, orK_f, iteK_t, iteK_f, notK_b, eNeg, neg_i, eBin, bin_add, bin_sub, bin_mul, bin_div, bin_mod, bin_pow, add_i, add_s, add_oo, add_ov, add_vo, add_vv, sub_i, mul_r, mul_l, mul_s, mul_o, div_p, mod_p, pow_p, eCmp, c_eq, c_ne, c_lt, c_le, c_gt, c_ge, c_is, c_in, c_nin, eq_ii, eq_ss, eq_bb, ne_ii, ne_ss, ne_bb, lt_ii, le_ii, gt_ii, ge_ii, in_ss, nin_ss, eIx, optR_some, ix_lv, ix_lo, ix_lb, ix_tv, ix_tb, ix_s, eSl_k, sl_s, sl_lv, sl_lo, sl_lb, sl_tv, part_none, part_some, pK_i, eBlt_k, len_s, len_lv, len_lo, len_lb, len_tv, len_tb, str_p, int_i, int_b, list_lv, list_lo, list_lb, list_tv, tuple_lv, tuple_lo, tuple_lb, tuple_tv, all_o, any_o, sum_o, min_i, max_i, eIsi_k, isi_bb, isi_ii, isi_bi, isi_ss, isi_st, isi_tt, isi_ts, isi_it, isi_ti, isi_si, isi_ll, isi_lb, isi_lo, eCall_k, arg_v, arg_o, arg_b, eJoin_k, joinX_s, join_o, joinK_s, eGlo, setR_f, setR_fo, setR_t, eSeqX_k, eSeq_k, it_lv, it_lo, it_tv, it_s, id_lv, id_lo, id_lb, id_tv, id_tb, id_s, eRngV_k, rng_1, rng_2, eLc_k, lcK_ok, ofD, Bt.fn, Ty.T, List.map_cons, List.map_nil, List.head?_cons, List.head?_nil, List.length_cons, List.length_nil, List.cons_append, List.nil_append, List.replicate_succ, List.replicate_zero, List.getElem?_cons_zero, List.getElem?_cons_succ, List.set_cons_zero, List.set_cons_succ, Nat.reduceSub, Nat.reduceAdd, Nat.zero_add, if_true, Bool.false_eq_true, if_false, Bool.and_true, Bool.true_and, Nat.zero_le, decide_true, Bool.or_true, Bool.true_or, decide_false, Int.reduceLT, Int.reduceLE, Int.reduceMul, Int.reduceAdd, Int.reduceSub, Int.reduceNeg, Int.reduceToNat, Int.reduceMod, Int.reduceDiv, Nat.reduceLeDiff, Nat.reduceLT, Bool.not_true, Bool.not_false, Bool.and_self, beq_self_eq_true, Int.reducePow, Nat.reducePow, Int.reduceBEq, d__law_near, Rw.d, Ot.d, g3, g4, g0, e1, atI0, atI1, atI2, z2, z3]⟩
    · exact ⟨⟨w, b, .i a⟩, by simp only [dn_get1, dn_dct0, dn_din, ds_dput, dk_s, dk_i, dk_t0, dk_t1, dk_t2, dk_t3, sDput_k, dputA_d, dputC_k, eDin_k, din_v, din_o, din_b, ain_s, anin_s, dinC_t, dinC_f, ix_dv, ix_do, ix_db, ixC_k, getO_some, getO_none, getC_k, eGet1_k, eGet2_k, get1_v, get1_o, get1_b, get2_v, get2_o, get2_b, runD, runO, st0, run_rn, runO_rn, fin_nx, fin_rt, fin_ex, denB_nil, denB_cons, dens, dn_var, dn_cst, dn_glo, dn_tup, dn_lst, dn_and, dn_or, dn_not, dn_neg, dn_bin, dn_cmp, dn_chn, dn_ite, dn_ix, dn_sl, dn_blt, dn_isi, dn_join, dn_get2, dn_call, dn_rng, dn_lc, ds_pass, ds_brk, ds_cnt, ds_drop, ds_ret, ds_retN, ds_retV, ds_set, ds_unp, ds_ite, ds_fore, ds_whl, ds_app, ds_ext, ds_clr, ds_frz, ds_lend, ds_callO, ds_raise, ds_tryM, denL, List.zip_cons_cons, List.zip_nil_left, List.zip_nil_right, sTry_k, tK_nx, tK_rt, tK_bk, tK_ct, tK_ex, catch_nil, catch_cons, caK_t, caK_f, noX_nx, noX_rt, noX_bk, noX_ct, oSeq_k, oK_nx, oK_rt, oK_bk, oK_ct, oK_ex, oK_st, oB_ok, oB_exc, Res.bind_ok, Res.bind_exc, Res.bind_stuck, sSet, sIf_k, oIf_t, oIf_f, sRet, sRetV, sRetN, sDrop, sFrz, sApp_k, appK_v, appK_o, sExt_k, extK_v, extK_o, sClr, onL, sLend, sCallO, onO, oBs_k, callO_k, cK_s, bK_nx, bK_rt, backO, argO, Option.map_some, sUnp_k, unpK_v, setAll, vals, sFor_k, forK_ok, whK_t, whK_f, whN_nx, whN_ct, whN_bk, whN_rt, whN_ex, eVar, eArgs_nil, eArgs_cons, eTup_k, eLst_k, tupK_s, lstK_s, frozs_nil, frozs_cons, froK_s, froz_v, froz_o, eAnd_k, eOr_k, eNot_k, eIte_k, andK_t, andK_f, orK_t, orK_f, iteK_t, iteK_f, notK_b, eNeg, neg_i, eBin, bin_add, bin_sub, bin_mul, bin_div, bin_mod, bin_pow, add_i, add_s, add_oo, add_ov, add_vo, add_vv, sub_i, mul_r, mul_l, mul_s, mul_o, div_p, mod_p, pow_p, eCmp, c_eq, c_ne, c_lt, c_le, c_gt, c_ge, c_is, c_in, c_nin, eq_ii, eq_ss, eq_bb, ne_ii, ne_ss, ne_bb, lt_ii, le_ii, gt_ii, ge_ii, in_ss, nin_ss, eIx, optR_some, ix_lv, ix_lo, ix_lb, ix_tv, ix_tb, ix_s, eSl_k, sl_s, sl_lv, sl_lo, sl_lb, sl_tv, part_none, part_some, pK_i, eBlt_k, len_s, len_lv, len_lo, len_lb, len_tv, len_tb, str_p, int_i, int_b, list_lv, list_lo, list_lb, list_tv, tuple_lv, tuple_lo, tuple_lb, tuple_tv, all_o, any_o, sum_o, min_i, max_i, eIsi_k, isi_bb, isi_ii, isi_bi, isi_ss, isi_st, isi_tt, isi_ts, isi_it, isi_ti, isi_si, isi_ll, isi_lb, isi_lo, eCall_k, arg_v, arg_o, arg_b, eJoin_k, joinX_s, join_o, joinK_s, eGlo, setR_f, setR_fo, setR_t, eSeqX_k, eSeq_k, it_lv, it_lo, it_tv, it_s, id_lv, id_lo, id_lb, id_tv, id_tb, id_s, eRngV_k, rng_1, rng_2, eLc_k, lcK_ok, ofD, Bt.fn, Ty.T, List.map_cons, List.map_nil, List.head?_cons, List.head?_nil, List.length_cons, List.length_nil, List.cons_append, List.nil_append, List.replicate_succ, List.replicate_zero, List.getElem?_cons_zero, List.getElem?_cons_succ, List.set_cons_zero, List.set_cons_succ, Nat.reduceSub, Nat.reduceAdd, Nat.zero_add, if_true, Bool.false_eq_true, if_false, Bool.and_true, Bool.true_and, Nat.zero_le, decide_true, Bool.or_true, Bool.true_or, decide_false, Int.reduceLT, Int.reduceLE, Int.reduceMul, Int.reduceAdd, Int.reduceSub, Int.reduceNeg, Int.reduceToNat, Int.reduceMod, Int.reduceDiv, Nat.reduceLeDiff, Nat.reduceLT, Bool.not_true, Bool.not_false, Bool.and_self, beq_self_eq_true, Int.reducePow, Nat.reducePow, Int.reduceBEq, d__law_near, Rw.d, Ot.d, g3, e1, atI0, atI1, atI2, z2, z3]⟩
  · have e1 : (w == w) = true := by simp
    cases g5 : (c % 6 == 5)
    · cases g3 : (c % 6 == 3)
      all_goals cases g4 : (c % 6 == 4)
      all_goals exact ⟨⟨w, a, .p b b'⟩, by simp only [dn_get1, dn_dct0, dn_din, ds_dput, dk_s, dk_i, dk_t0, dk_t1, dk_t2, dk_t3, sDput_k, dputA_d, dputC_k, eDin_k, din_v, din_o, din_b, ain_s, anin_s, dinC_t, dinC_f, ix_dv, ix_do, ix_db, ixC_k, getO_some, getO_none, getC_k, eGet1_k, eGet2_k, get1_v, get1_o, get1_b, get2_v, get2_o, get2_b, runD, runO, st0, run_rn, runO_rn, fin_nx, fin_rt, fin_ex, denB_nil, denB_cons, dens, dn_var, dn_cst, dn_glo, dn_tup, dn_lst, dn_and, dn_or, dn_not, dn_neg, dn_bin, dn_cmp, dn_chn, dn_ite, dn_ix, dn_sl, dn_blt, dn_isi, dn_join, dn_get2, dn_call, dn_rng, dn_lc, ds_pass, ds_brk, ds_cnt, ds_drop, ds_ret, ds_retN, ds_retV, ds_set, ds_unp, ds_ite, ds_fore, ds_whl, ds_app, ds_ext, ds_clr, ds_frz, ds_lend, ds_callO, ds_raise, ds_tryM, denL, List.zip_cons_cons, List.zip_nil_left, List.zip_nil_right, sTry_k, tK_nx, tK_rt, tK_bk, tK_ct, tK_ex, catch_nil, catch_cons, caK_t, caK_f, noX_nx, noX_rt, noX_bk, noX_ct, oSeq_k, oK_nx, oK_rt, oK_bk, oK_ct, oK_ex, oK_st, oB_ok, oB_exc, Res.bind_ok, Res.bind_exc, Res.bind_stuck, sSet, sIf_k, oIf_t, oIf_f, sRet, sRetV, sRetN, sDrop, sFrz, sApp_k, appK_v, appK_o, sExt_k, extK_v, extK_o, sClr, onL, sLend, sCallO, onO, oBs_k, callO_k, cK_s, bK_nx, bK_rt, backO, argO, Option.map_some, sUnp_k, unpK_v, setAll, vals, sFor_k, forK_ok, whK_t, whK_f, whN_nx, whN_ct, whN_bk, whN_rt, whN_ex, eVar, eArgs_nil, eArgs_cons, eTup_k, eLst_k, tupK_s, lstK_s, frozs_nil, frozs_cons, froK_s, froz_v, froz_o, eAnd_k, eOr_k, eNot_k, eIte_k, andK_t, andK_f, orK_t, orK_f, iteK_t, iteK_f, notK_b, eNeg, neg_i, eBin, bin_add, bin_sub, bin_mul, bin_div, bin_mod, bin_pow, add_i, add_s, add_oo, add_ov, add_vo, add_vv, sub_i, mul_r, mul_l, mul_s, mul_o, div_p, mod_p, pow_p, eCmp, c_eq, c_ne, c_lt, c_le, c_gt, c_ge, c_is, c_in, c_nin, eq_ii, eq_ss, eq_bb, ne_ii, ne_ss, ne_bb, lt_ii, le_ii, gt_ii, ge_ii, in_ss, nin_ss, eIx, optR_some, ix_lv, ix_lo, ix_lb, ix_tv, ix_tb, ix_s, eSl_k, sl_s, sl_lv, sl_lo, sl_lb, sl_tv, part_none, part_some, pK_i, eBlt_k, len_s, len_lv, len_lo, len_lb, len_tv, len_tb, str_p, int_i, int_b, list_lv, list_lo, list_lb, list_tv, tuple_lv, tuple_lo, tuple_lb, tuple_tv, all_o, any_o, sum_o, min_i, max_i, eIsi_k, isi_bb, isi_ii, isi_bi, isi_ss, isi_st, isi_tt, isi_ts, isi_it, isi_ti, isi_si, isi_ll, isi_lb, isi_lo, eCall_k, arg_v, arg_o, arg_b, eJoin_k, joinX_s, join_o, joinK_s, eGlo, setR_f, setR_fo, setR_t, eSeqX_k, eSeq_k, it_lv, it_lo, it_tv, it_s, id_lv, id_lo, id_lb, id_tv, id_tb, id_s, eRngV_k, rng_1, rng_2, eLc_k, lcK_ok, ofD, Bt.fn, Ty.T, List.map_cons, List.map_nil, List.head?_cons, List.head?_nil, List.length_cons, List.length_nil, List.cons_append, List.nil_append, List.replicate_succ, List.replicate_zero, List.getElem?_cons_zero, List.getElem?_cons_succ, List.set_cons_zero, List.set_cons_succ, Nat.reduceSub, Nat.reduceAdd, Nat.zero_add, if_true, Bool.false_eq_true, if_false, Bool.and_true, Bool.true_and, Nat.zero_le, decide_true, Bool.or_true, Bool.true_or, decide_false, Int.reduceLT, Int.reduceLE, Int.reduceMul, Int.reduceAdd, Int.reduceSub, Int.reduceNeg, Int.reduceToNat, Int.reduceMod, Int.reduceDiv, Nat.reduceLeDiff, Nat.reduceLT, Bool.not_true, Bool.not_false, Bool.and_self, beq_self_eq_true, Int.reducePow, Nat.reducePow, Int.reduceBEq, d__law_near, Rw.d, Ot.d, g3, g4, g5, e1, atI0, atI1, atI2, z2, z3]⟩
    · cases g3 : (c % 6 == 3)
      all_goals cases g4 : (c % 6 == 4)
      all_goals exact ⟨⟨w, a, .p b (b' + 1)⟩, by simp only [dn_get1, dn_dct0, dn_din, ds_dput, dk_s, dk_i, dk_t0, dk_t1, dk_t2, dk_t3, sDput_k, dputA_d, dputC_k, eDin_k, din_v, din_o, din_b, ain_s, anin_s, dinC_t, dinC_f, ix_dv, ix_do, ix_db, ixC_k, getO_some, getO_none, getC_k, eGet1_k, eGet2_k, get1_v, get1_o, get1_b, get2_v, get2_o, get2_b, runD, runO, st0, run_rn, runO_rn, fin_nx, fin_rt, fin_ex, denB_nil, denB_cons, dens, dn_var, dn_cst, dn_glo, dn_tup, dn_lst, dn_and, dn_or, dn_not, dn_neg, dn_bin, dn_cmp, dn_chn, dn_ite, dn_ix, dn_sl, dn_blt, dn_isi, dn_join, dn_get2, dn_call, dn_rng, dn_lc, ds_pass, ds_brk, ds_cnt, ds_drop, ds_ret, ds_retN, ds_retV, ds_set, ds_unp, ds_ite, ds_fore, ds_whl, ds_app, ds_ext, ds_clr, ds_frz, ds_lend, ds_callO, ds_raise, ds_tryM, denL, List.zip_cons_cons, List.zip_nil_left, List.zip_nil_right, sTry_k, tK_nx, tK_rt, tK_bk, tK_ct, tK_ex, catch_nil, catch_cons, caK_t, caK_f, noX_nx, noX_rt, noX_bk, noX_ct, oSeq_k, oK_nx, oK_rt, oK_bk, oK_ct, oK_ex, oK_st, oB_ok, oB_exc, Res.bind_ok, Res.bind_exc, Res.bind_stuck, sSet, sIf_k, oIf_t, oIf_f, sRet, sRetV, sRetN, sDrop, sFrz, sApp_k, appK_v, appK_o, sExt_k, extK_v, extK_o, sClr, onL, sLend, sCallO, onO, oBs_k, callO_k, cK_s, bK_nx, bK_rt, backO, argO, Option.map_some, sUnp_k, unpK_v, setAll, vals, sFor_k, forK_ok, whK_t, whK_f, whN_nx, whN_ct, whN_bk, whN_rt, whN_ex, eVar, eArgs_nil, eArgs_cons, eTup_k, eLst_k, tupK_s, lstK_s, frozs_nil, frozs_cons, froK_s, froz_v, froz_o, eAnd_k, eOr_k, eNot_k, eIte_k, andK_t, andK_f, orK_t, orK_f, iteK_t, iteK_f, notK_b, eNeg, neg_i, eBin, bin_add, bin_sub, bin_mul, bin_div, bin_mod, bin_pow, add_i, add_s, add_oo, add_ov, add_vo, add_vv, sub_i, mul_r, mul_l, mul_s, mul_o, div_p, mod_p, pow_p, eCmp, c_eq, c_ne, c_lt, c_le, c_gt, c_ge, c_is, c_in, c_nin, eq_ii, eq_ss, eq_bb, ne_ii, ne_ss, ne_bb, lt_ii, le_ii, gt_ii, ge_ii, in_ss, nin_ss, eIx, optR_some, ix_lv, ix_lo, ix_lb, ix_tv, ix_tb, ix_s, eSl_k, sl_s, sl_lv, sl_lo, sl_lb, sl_tv, part_none, part_some, pK_i, eBlt_k, len_s, len_lv, len_lo, len_lb, len_tv, len_tb, str_p, int_i, int_b, list_lv, list_lo, list_lb, list_tv, tuple_lv, tuple_lo, tuple_lb, tuple_tv, all_o, any_o, sum_o, min_i, max_i, eIsi_k, isi_bb, isi_ii, isi_bi, isi_ss, isi_st, isi_tt, isi_ts, isi_it, isi_ti, isi_si, isi_ll, isi_lb, isi_lo, eCall_k, arg_v, arg_o, arg_b, eJoin_k, joinX_s, join_o, joinK_s, eGlo, setR_f, setR_fo, setR_t, eSeqX_k, eSeq_k, it_lv, it_lo, it_tv, it_s, id_lv, id_lo, id_lb, id_tv, id_tb, id_s, eRngV_k, rng_1, rng_2, eLc_k, lcK_ok, ofD, Bt.fn, Ty.T, List.map_cons, List.map_nil, List.head?_cons, List.head?_nil, List.length_cons, List.length_nil, List.cons_append, List.nil_append, List.replicate_succ, List.replicate_zero, List.getElem?_cons_zero, List.getElem?_cons_succ, List.set_cons_zero, List.set_cons_succ, Nat.reduceSub, Nat.reduceAdd, Nat.zero_add, if_true, Bool.false_eq_true, if_false, Bool.and_true, Bool.true_and, Nat.zero_le, decide_true, Bool.or_true, Bool.true_or, decide_false, Int.reduceLT, Int.reduceLE, Int.reduceMul, Int.reduceAdd, Int.reduceSub, Int.reduceNeg, Int.reduceToNat, Int.reduceMod, Int.reduceDiv, Nat.reduceLeDiff, Nat.reduceLT, Bool.not_true, Bool.not_false, Bool.and_self, beq_self_eq_true, Int.reducePow, Nat.reducePow, Int.reduceBEq, d__law_near, Rw.d, Ot.d, g3, g4, g5, e1, atI0, atI1, atI2, z2, z3]⟩
theorem cpEq_rw (x y : Rw) : cpEq (.val x.d) (.val y.d) = .ok (.val (.bl (decide (x = y)))) := by
  have e : eqOk x.d y.d = true := by
    have a := rw_no x
    have b := rw_no y
    simp [eqOk, a.1, b.1]
    omega
  show (if eqOk x.d y.d = true then _ else _) = _
  rw [if_pos e]
  show Res.ok (R.val (.bl (deq x.d y.d))) = _
  rw [rw_deq]
def Tr.leaf (rows : List Rw) (t : Tr) : Prop := t.ls = [t] ∧ t.good rows ∧ t.lv = 1 ∧ t.lack.length ≤ 1
theorem leaf_eq (h0 : w0 ≠ w1) (h2 : w2 ≠ w1) (n : Nat) (c : Int) (rows : List Rw) (hr : ∀ r ∈ rows, r.ok w0 w1 w2) (hz : rows.length ≤ 100) :
    ∃ t : Tr, t.leaf rows ∧ rn T M (n + 2) 5 [.val (.int c), .val (.lst (rows.map Rw.d)), .val (.lst [.str w0, .str w1, .str w2])] = .ok (.val t.d) := by
  have z1 : (1 : Nat) ≤ LIM := by decide
  have z2 : (2 : Nat) ≤ LIM := by decide
  have z3 : (3 : Nat) ≤ LIM := by decide
  have z5 : (5 : Nat) ≤ LIM := by decide
  have lz : (rows.map Rw.d).length ≤ LIM := lim_small (by rw [List.length_map]; omega)
  have num : ∀ m : Int, 0 < m → ∃ t : Tr, t.leaf rows ∧ t.d = .tup [.tup [.str "num", .int m], .int (c * 982451653 % m), .int ((c * 982451653 % m + (if (c / 3 % 7 == 1) = true then 1 else 0)) % m), .lst [], .bl (c * 982451653 % m == (c * 982451653 % m + (if (c / 3 % 7 == 1) = true then 1 else 0)) % m)] := fun m _ =>
    ⟨.num m (c * 982451653 % m) ((c * 982451653 % m + (if (c / 3 % 7 == 1) = true then 1 else 0)) % m), ⟨rfl, trivial, rfl, Nat.zero_le _⟩, rfl⟩
  rw [rn_at (F := d__law_leaf) rfl]
  have m0 : 0 < 2 + c / 3 * 7919 % 999999999999999999 := by omega
  obtain ⟨t, t1, t2⟩ := num _ m0
  cases b0 : (c % 3 == 0)
  · cases b1 : ((rows.length : Int) == 0)
    · have hp : 0 < rows.length := by
        have : (rows.length : Int) ≠ 0 := by simpa using b1
        omega
      have hpi : (0 : Int) < (rows.length : Int) := by omega
      obtain ⟨j, hj⟩ := Int.eq_ofNat_of_zero_le (Int.emod_nonneg (c / 18) (by omega : (rows.length : Int) ≠ 0))
      have hj2 : j < rows.length := by have := Int.emod_lt_of_pos (c / 18) hpi; omega
      have g0 : atI (rows.map Rw.d) (j : Int) = some (rows[j]).d := by
        rw [atI_map, atI_in (by omega) (by omega)]
        simp [List.getElem?_eq_getElem hj2]
      obtain ⟨r, hr'⟩ := near_eq h0 h2 n (c / 3) rows[j] (hr _ (List.getElem_mem hj2))
      have hr' : rn T M (n + 1) 4 [.val (.int (c / 3)), .val (rows[j]).d, .val (.lst [.str w0, .str w1, .str w2])] = .ok (.val r.d) := hr'
      refine ⟨.row r (!rows.contains r), ⟨rfl, rfl, rfl, by simp only [Tr.lack]; split <;> simp⟩, ?_⟩
      simp only [dn_get1, dn_dct0, dn_din, ds_dput, dk_s, dk_i, dk_t0, dk_t1, dk_t2, dk_t3, sDput_k, dputA_d, dputC_k, eDin_k, din_v, din_o, din_b, ain_s, anin_s, dinC_t, dinC_f, ix_dv, ix_do, ix_db, ixC_k, getO_some, getO_none, getC_k, eGet1_k, eGet2_k, get1_v, get1_o, get1_b, get2_v, get2_o, get2_b, runD, runO, st0, run_rn, runO_rn, fin_nx, fin_rt, fin_ex, denB_nil, denB_cons, dens, dn_var, dn_cst, dn_glo, dn_tup, dn_lst, dn_and, dn_or, dn_not, dn_neg, dn_bin, dn_cmp, dn_chn, dn_ite, dn_ix, dn_sl, dn_blt, dn_isi, dn_join, dn_get2, dn_call, dn_rng, dn_lc, ds_pass, ds_brk, ds_cnt, ds_drop, ds_ret, ds_retN, ds_retV, ds_set, ds_unp, ds_ite, ds_fore, ds_whl, ds_app, ds_ext, ds_clr, ds_frz, ds_lend, ds_callO, ds_raise, ds_tryM, denL, List.zip_cons_cons, List.zip_nil_left, List.zip_nil_right, sTry_k, tK_nx, tK_rt, tK_bk, tK_ct, tK_ex, catch_nil, catch_cons, caK_t, caK_f, noX_nx, noX_rt, noX_bk, noX_ct, oSeq_k, oK_nx, oK_rt, oK_bk, oK_ct, oK_ex, oK_st, oB_ok, oB_exc, Res.bind_ok, Res.bind_exc, Res.bind_stuck, sSet, sIf_k, oIf_t, oIf_f, sRet, sRetV, sRetN, sDrop, sFrz, sApp_k, appK_v, appK_o, sExt_k, extK_v, extK_o, sClr, onL, sLend, sCallO, onO, oBs_k, callO_k, cK_s, bK_nx, bK_rt, backO, argO, Option.map_some, sUnp_k, unpK_v, setAll, vals, sFor_k, forK_ok, whK_t, whK_f, whN_nx, whN_ct, whN_bk, whN_rt, whN_ex, eVar, eArgs_nil, eArgs_cons, eTup_k, eLst_k, tupK_s, lstK_s, frozs_nil, frozs_cons, froK_s, froz_v, froz_o, eAnd_k, eOr_k, eNot_k, eIte_k, andK_t, andK_f, orK_t, orK_f, iteK_t, iteK_f, notK_b, eNeg, neg_i, eBin, bin_add, bin_sub, bin_mul, bin_div, bin_mod, bin_pow, add_i, add_s, add_oo, add_ov, add_vo, add_vv, sub_i, mul_r, mul_l, mul_s, mul_o, div_p, mod_p, pow_p, eCmp, c_eq, c_ne, c_lt, c_le, c_gt, c_ge, c_is, c_in, c_nin, eq_ii, eq_ss, eq_bb, ne_ii, ne_ss, ne_bb, lt_ii, le_ii, gt_ii, ge_ii, in_ss, nin_ss, eIx, optR_some, ix_lv, ix_lo, ix_lb, ix_tv, ix_tb, ix_s, eSl_k, sl_s, sl_lv, sl_lo, sl_lb, sl_tv, part_none, part_some, pK_i, eBlt_k, len_s, len_lv, len_lo, len_lb, len_tv, len_tb, str_p, int_i, int_b, list_lv, list_lo, list_lb, list_tv, tuple_lv, tuple_lo, tuple_lb, tuple_tv, all_o, any_o, sum_o, min_i, max_i, eIsi_k, isi_bb, isi_ii, isi_bi, isi_ss, isi_st, isi_tt, isi_ts, isi_it, isi_ti, isi_si, isi_ll, isi_lb, isi_lo, eCall_k, arg_v, arg_o, arg_b, eJoin_k, joinX_s, join_o, joinK_s, eGlo, setR_f, setR_fo, setR_t, eSeqX_k, eSeq_k, it_lv, it_lo, it_tv, it_s, id_lv, id_lo, id_lb, id_tv, id_tb, id_s, eRngV_k, rng_1, rng_2, eLc_k, lcK_ok, ofD, Bt.fn, Ty.T, List.map_cons, List.map_nil, List.head?_cons, List.head?_nil, List.length_cons, List.length_nil, List.cons_append, List.nil_append, List.replicate_succ, List.replicate_zero, List.getElem?_cons_zero, List.getElem?_cons_succ, List.set_cons_zero, List.set_cons_succ, Nat.reduceSub, Nat.reduceAdd, Nat.zero_add, if_true, Bool.false_eq_true, if_false, Bool.and_true, Bool.true_and, Nat.zero_le, decide_true, Bool.or_true, Bool.true_or, decide_false, Int.reduceLT, Int.reduceLE, Int.reduceMul, Int.reduceAdd, Int.reduceSub, Int.reduceNeg, Int.reduceToNat, Int.reduceMod, Int.reduceDiv, Nat.reduceLeDiff, Nat.reduceLT, Bool.not_true, Bool.not_false, Bool.and_self, beq_self_eq_true, Int.reducePow, Nat.reducePow, Int.reduceBEq, d__law_leaf, List.length_map, b0, b1, hpi, hj, g0, hr', z1]
      generalize hF : forGo _ _ _ _ = F
      obtain ⟨ρ', hF', dn, e, rest, hρ, hd, hd2⟩ := forGo_go (I := fun ds ρ => ∃ (dn : List Rw) (e : Option R) (rest : List Rw), ρ = [some (.val (.int c)), some (.val (.lst (rows.map Rw.d))), some (.val (.lst [.str w0, .str w1, .str w2])), some (.val r.d), some (.val (.lst ((if dn.contains r then [] else [r]).map Rw.d))), e, none, none, none] ∧ rows = dn ++ rest ∧ ds = rest.map Rw.d) hF
        ⟨[], none, rows, rfl, rfl, rfl⟩ (fun d ds ρ ⟨dn, e, rest, hρ, hd, hd2⟩ => by
          subst hρ
          cases rest with
          | nil => simp at hd2
          | cons x rest =>
          rw [List.map_cons] at hd2
          obtain ⟨rfl, rfl⟩ := List.cons.inj hd2
          have q := cpEq_rw x r
          by_cases hx : x = r
          · rw [decide_eq_true hx] at q
            exact ⟨_, rfl, _, .inl (by simp only [dn_get1, dn_dct0, dn_din, ds_dput, dk_s, dk_i, dk_t0, dk_t1, dk_t2, dk_t3, sDput_k, dputA_d, dputC_k, eDin_k, din_v, din_o, din_b, ain_s, anin_s, dinC_t, dinC_f, ix_dv, ix_do, ix_db, ixC_k, getO_some, getO_none, getC_k, eGet1_k, eGet2_k, get1_v, get1_o, get1_b, get2_v, get2_o, get2_b, runD, runO, st0, run_rn, runO_rn, fin_nx, fin_rt, fin_ex, denB_nil, denB_cons, dens, dn_var, dn_cst, dn_glo, dn_tup, dn_lst, dn_and, dn_or, dn_not, dn_neg, dn_bin, dn_cmp, dn_chn, dn_ite, dn_ix, dn_sl, dn_blt, dn_isi, dn_join, dn_get2, dn_call, dn_rng, dn_lc, ds_pass, ds_brk, ds_cnt, ds_drop, ds_ret, ds_retN, ds_retV, ds_set, ds_unp, ds_ite, ds_fore, ds_whl, ds_app, ds_ext, ds_clr, ds_frz, ds_lend, ds_callO, ds_raise, ds_tryM, denL, List.zip_cons_cons, List.zip_nil_left, List.zip_nil_right, sTry_k, tK_nx, tK_rt, tK_bk, tK_ct, tK_ex, catch_nil, catch_cons, caK_t, caK_f, noX_nx, noX_rt, noX_bk, noX_ct, oSeq_k, oK_nx, oK_rt, oK_bk, oK_ct, oK_ex, oK_st, oB_ok, oB_exc, Res.bind_ok, Res.bind_exc, Res.bind_stuck, sSet, sIf_k, oIf_t, oIf_f, sRet, sRetV, sRetN, sDrop, sFrz, sApp_k, appK_v, appK_o, sExt_k, extK_v, extK_o, sClr, onL, sLend, sCallO, onO, oBs_k, callO_k, cK_s, bK_nx, bK_rt, backO, argO, Option.map_some, sUnp_k, unpK_v, setAll, vals, sFor_k, forK_ok, whK_t, whK_f, whN_nx, whN_ct, whN_bk, whN_rt, whN_ex, eVar, eArgs_nil, eArgs_cons, eTup_k, eLst_k, tupK_s, lstK_s, frozs_nil, frozs_cons, froK_s, froz_v, froz_o, eAnd_k, eOr_k, eNot_k, eIte_k, andK_t, andK_f, orK_t, orK_f, iteK_t, iteK_f, notK_b, eNeg, neg_i, eBin, bin_add, bin_sub, bin_mul, bin_div, bin_mod, bin_pow, add_i, add_s, add_oo, add_ov, add_vo, add_vv, sub_i, mul_r, mul_l, mul_s, mul_o, div_p, mod_p, pow_p, eCmp, c_eq, c_ne, c_lt, c_le, c_gt, c_ge, c_is, c_in, c_nin, eq_ii, eq_ss, eq_bb, ne_ii, ne_ss, ne_bb, lt_ii, le_ii, gt_ii, ge_ii, in_ss, nin_ss, eIx, optR_some, ix_lv, ix_lo, ix_lb, ix_tv, ix_tb, ix_s, eSl_k, sl_s, sl_lv, sl_lo, sl_lb, sl_tv, part_none, part_some, pK_i, eBlt_k, len_s, len_lv, len_lo, len_lb, len_tv, len_tb, str_p, int_i, int_b, list_lv, list_lo, list_lb, list_tv, tuple_lv, tuple_lo, tuple_lb, tuple_tv, all_o, any_o, sum_o, min_i, max_i, eIsi_k, isi_bb, isi_ii, isi_bi, isi_ss, isi_st, isi_tt, isi_ts, isi_it, isi_ti, isi_si, isi_ll, isi_lb, isi_lo, eCall_k, arg_v, arg_o, arg_b, eJoin_k, joinX_s, join_o, joinK_s, eGlo, setR_f, setR_fo, setR_t, eSeqX_k, eSeq_k, it_lv, it_lo, it_tv, it_s, id_lv, id_lo, id_lb, id_tv, id_tb, id_s, eRngV_k, rng_1, rng_2, eLc_k, lcK_ok, ofD, Bt.fn, Ty.T, List.map_cons, List.map_nil, List.head?_cons, List.head?_nil, List.length_cons, List.length_nil, List.cons_append, List.nil_append, List.replicate_succ, List.replicate_zero, List.getElem?_cons_zero, List.getElem?_cons_succ, List.set_cons_zero, List.set_cons_succ, Nat.reduceSub, Nat.reduceAdd, Nat.zero_add, if_true, Bool.false_eq_true, if_false, Bool.and_true, Bool.true_and, Nat.zero_le, decide_true, Bool.or_true, Bool.true_or, decide_false, Int.reduceLT, Int.reduceLE, Int.reduceMul, Int.reduceAdd, Int.reduceSub, Int.reduceNeg, Int.reduceToNat, Int.reduceMod, Int.reduceDiv, Nat.reduceLeDiff, Nat.reduceLT, Bool.not_true, Bool.not_false, Bool.and_self, beq_self_eq_true, Int.reducePow, Nat.reducePow, Int.reduceBEq, q]; rfl), dn ++ [x], some (.val x.d), rest, by simp [hx], by simp [hd], rfl⟩
          · rw [decide_eq_false hx] at q
            exact ⟨_, rfl, _, .inl (by simp only [dn_get1, dn_dct0, dn_din, ds_dput, dk_s, dk_i, dk_t0, dk_t1, dk_t2, dk_t3, sDput_k, dputA_d, dputC_k, eDin_k, din_v, din_o, din_b, ain_s, anin_s, dinC_t, dinC_f, ix_dv, ix_do, ix_db, ixC_k, getO_some, getO_none, getC_k, eGet1_k, eGet2_k, get1_v, get1_o, get1_b, get2_v, get2_o, get2_b, runD, runO, st0, run_rn, runO_rn, fin_nx, fin_rt, fin_ex, denB_nil, denB_cons, dens, dn_var, dn_cst, dn_glo, dn_tup, dn_lst, dn_and, dn_or, dn_not, dn_neg, dn_bin, dn_cmp, dn_chn, dn_ite, dn_ix, dn_sl, dn_blt, dn_isi, dn_join, dn_get2, dn_call, dn_rng, dn_lc, ds_pass, ds_brk, ds_cnt, ds_drop, ds_ret, ds_retN, ds_retV, ds_set, ds_unp, ds_ite, ds_fore, ds_whl, ds_app, ds_ext, ds_clr, ds_frz, ds_lend, ds_callO, ds_raise, ds_tryM, denL, List.zip_cons_cons, List.zip_nil_left, List.zip_nil_right, sTry_k, tK_nx, tK_rt, tK_bk, tK_ct, tK_ex, catch_nil, catch_cons, caK_t, caK_f, noX_nx, noX_rt, noX_bk, noX_ct, oSeq_k, oK_nx, oK_rt, oK_bk, oK_ct, oK_ex, oK_st, oB_ok, oB_exc, Res.bind_ok, Res.bind_exc, Res.bind_stuck, sSet, sIf_k, oIf_t, oIf_f, sRet, sRetV, sRetN, sDrop, sFrz, sApp_k, appK_v, appK_o, sExt_k, extK_v, extK_o, sClr, onL, sLend, sCallO, onO, oBs_k, callO_k, cK_s, bK_nx, bK_rt, backO, argO, Option.map_some, sUnp_k, unpK_v, setAll, vals, sFor_k, forK_ok, whK_t, whK_f, whN_nx, whN_ct, whN_bk, whN_rt, whN_ex, eVar, eArgs_nil, eArgs_cons, eTup_k, eLst_k, tupK_s, lstK_s, frozs_nil, frozs_cons, froK_s, froz_v, froz_o, eAnd_k, eOr_k, eNot_k, eIte_k, andK_t, andK_f, orK_t, orK_f, iteK_t, iteK_f, notK_b, eNeg, neg_i, eBin, bin_add, bin_sub, bin_mul, bin_div, bin_mod, bin_pow, add_i, add_s, add_oo, add_ov, add_vo, add_vv, sub_i, mul_r, mul_l, mul_s, mul_o, div_p, mod_p, pow_p, eCmp, c_eq, c_ne, c_lt, c_le, c_gt, c_ge, c_is, c_in, c_nin, eq_ii, eq_ss, eq_bb, ne_ii, ne_ss, ne_bb, lt_ii, le_ii, gt_ii, ge_ii, in_ss, nin_ss, eIx, optR_some, ix_lv, ix_lo, ix_lb, ix_tv, ix_tb, ix_s, eSl_k, sl_s, sl_lv, sl_lo, sl_lb, sl_tv, part_none, part_some, pK_i, eBlt_k, len_s, len_lv, len_lo, len_lb, len_tv, len_tb, str_p, int_i, int_b, list_lv, list_lo, list_lb, list_tv, tuple_lv, tuple_lo, tuple_lb, tuple_tv, all_o, any_o, sum_o, min_i, max_i, eIsi_k, isi_bb, isi_ii, isi_bi, isi_ss, isi_st, isi_tt, isi_ts, isi_it, isi_ti, isi_si, isi_ll, isi_lb, isi_lo, eCall_k, arg_v, arg_o, arg_b, eJoin_k, joinX_s, join_o, joinK_s, eGlo, setR_f, setR_fo, setR_t, eSeqX_k, eSeq_k, it_lv, it_lo, it_tv, it_s, id_lv, id_lo, id_lb, id_tv, id_tb, id_s, eRngV_k, rng_1, rng_2, eLc_k, lcK_ok, ofD, Bt.fn, Ty.T, List.map_cons, List.map_nil, List.head?_cons, List.head?_nil, List.length_cons, List.length_nil, List.cons_append, List.nil_append, List.replicate_succ, List.replicate_zero, List.getElem?_cons_zero, List.getElem?_cons_succ, List.set_cons_zero, List.set_cons_succ, Nat.reduceSub, Nat.reduceAdd, Nat.zero_add, if_true, Bool.false_eq_true, if_false, Bool.and_true, Bool.true_and, Nat.zero_le, decide_true, Bool.or_true, Bool.true_or, decide_false, Int.reduceLT, Int.reduceLE, Int.reduceMul, Int.reduceAdd, Int.reduceSub, Int.reduceNeg, Int.reduceToNat, Int.reduceMod, Int.reduceDiv, Nat.reduceLeDiff, Nat.reduceLT, Bool.not_true, Bool.not_false, Bool.and_self, beq_self_eq_true, Int.reducePow, Nat.reducePow, Int.reduceBEq, q]; rfl), dn ++ [x], some (.val x.d), rest, by simp [Ne.symm hx], by simp [hd], rfl⟩)
      have hrest : rest = [] := by cases rest with | nil => rfl | cons x r => simp at hd2
      subst hrest
      rw [List.append_nil] at hd
      subst hF' hρ hd
      simp only [dn_get1, dn_dct0, dn_din, ds_dput, dk_s, dk_i, dk_t0, dk_t1, dk_t2, dk_t3, sDput_k, dputA_d, dputC_k, eDin_k, din_v, din_o, din_b, ain_s, anin_s, dinC_t, dinC_f, ix_dv, ix_do, ix_db, ixC_k, getO_some, getO_none, getC_k, eGet1_k, eGet2_k, get1_v, get1_o, get1_b, get2_v, get2_o, get2_b, runD, runO, st0, run_rn, runO_rn, fin_nx, fin_rt, fin_ex, denB_nil, denB_cons, dens, dn_var, dn_cst, dn_glo, dn_tup, dn_lst, dn_and, dn_or, dn_not, dn_neg, dn_bin, dn_cmp, dn_chn, dn_ite, dn_ix, dn_sl, dn_blt, dn_isi, dn_join, dn_get2, dn_call, dn_rng, dn_lc, ds_pass, ds_brk, ds_cnt, ds_drop, ds_ret, ds_retN, ds_retV, ds_set, ds_unp, ds_ite, ds_fore, ds_whl, ds_app, ds_ext, ds_clr, ds_frz, ds_lend, ds_callO, ds_raise, ds_tryM, denL, List.zip_cons_cons, List.zip_nil_left, List.zip_nil_right, sTry_k, tK_nx, tK_rt, tK_bk, tK_ct, tK_ex, catch_nil, catch_cons, caK_t, caK_f, noX_nx, noX_rt, noX_bk, noX_ct, oSeq_k, oK_nx, oK_rt, oK_bk, oK_ct, oK_ex, oK_st, oB_ok, oB_exc, Res.bind_ok, Res.bind_exc, Res.bind_stuck, sSet, sIf_k, oIf_t, oIf_f, sRet, sRetV, sRetN, sDrop, sFrz, sApp_k, appK_v, appK_o, sExt_k, extK_v, extK_o, sClr, onL, sLend, sCallO, onO, oBs_k, callO_k, cK_s, bK_nx, bK_rt, backO, argO, Option.map_some, sUnp_k, unpK_v, setAll, vals, sFor_k, forK_ok, whK_t, whK_f, whN_nx, whN_ct, whN_bk, whN_rt, whN_ex, eVar, eArgs_nil, eArgs_cons, eTup_k, eLst_k, tupK_s, lstK_s, frozs_nil, frozs_cons, froK_s, froz_v, froz_o, eAnd_k, eOr_k, eNot_k, eIte_k, andK_t, andK_f, orK_t, orK_f, iteK_t, iteK_f, notK_b, eNeg, neg_i, eBin, bin_add, bin_sub, bin_mul, bin_div, bin_mod, bin_pow, add_i, add_s, add_oo, add_ov, add_vo, add_vv, sub_i, mul_r, mul_l, mul_s, mul_o, div_p, mod_p, pow_p, eCmp, c_eq, c_ne, c_lt, c_le, c_gt, c_ge, c_is, c_in, c_nin, eq_ii, eq_ss, eq_bb, ne_ii, ne_ss, ne_bb, lt_ii, le_ii, gt_ii, ge_ii, in_ss, nin_ss, eIx, optR_some, ix_lv, ix_lo, ix_lb, ix_tv, ix_tb, ix_s, eSl_k, sl_s, sl_lv, sl_lo, sl_lb, sl_tv, part_none, part_some, pK_i, eBlt_k, len_s, len_lv, len_lo, len_lb, len_tv, len_tb, str_p, int_i, int_b, list_lv, list_lo, list_lb, list_tv, tuple_lv, tuple_lo, tuple_lb, tuple_tv, all_o, any_o, sum_o, min_i, max_i, eIsi_k, isi_bb, isi_ii, isi_bi, isi_ss, isi_st, isi_tt, isi_ts, isi_it, isi_ti, isi_si, isi_ll, isi_lb, isi_lo, eCall_k, arg_v, arg_o, arg_b, eJoin_k, joinX_s, join_o, joinK_s, eGlo, setR_f, setR_fo, setR_t, eSeqX_k, eSeq_k, it_lv, it_lo, it_tv, it_s, id_lv, id_lo, id_lb, id_tv, id_tb, id_s, eRngV_k, rng_1, rng_2, eLc_k, lcK_ok, ofD, Bt.fn, Ty.T, List.map_cons, List.map_nil, List.head?_cons, List.head?_nil, List.length_cons, List.length_nil, List.cons_append, List.nil_append, List.replicate_succ, List.replicate_zero, List.getElem?_cons_zero, List.getElem?_cons_succ, List.set_cons_zero, List.set_cons_succ, Nat.reduceSub, Nat.reduceAdd, Nat.zero_add, if_true, Bool.false_eq_true, if_false, Bool.and_true, Bool.true_and, Nat.zero_le, decide_true, Bool.or_true, Bool.true_or, decide_false, Int.reduceLT, Int.reduceLE, Int.reduceMul, Int.reduceAdd, Int.reduceSub, Int.reduceNeg, Int.reduceToNat, Int.reduceMod, Int.reduceDiv, Nat.reduceLeDiff, Nat.reduceLT, Bool.not_true, Bool.not_false, Bool.and_self, beq_self_eq_true, Int.reducePow, Nat.reducePow, Int.reduceBEq, Rw.d, Tr.d, Tr.kind, Tr.one, Tr.oth, Tr.lack, Tr.eq, atI0, atI1, atI2, z3, z5]
      cases rows.contains r <;> rfl
    · exact ⟨t, t1, by rw [t2]; simp only [dn_get1, dn_dct0, dn_din, ds_dput, dk_s, dk_i, dk_t0, dk_t1, dk_t2, dk_t3, sDput_k, dputA_d, dputC_k, eDin_k, din_v, din_o, din_b, ain_s, anin_s, dinC_t, dinC_f, ix_dv, ix_do, ix_db, ixC_k, getO_some, getO_none, getC_k, eGet1_k, eGet2_k, get1_v, get1_o, get1_b, get2_v, get2_o, get2_b, runD, runO, st0, run_rn, runO_rn, fin_nx, fin_rt, fin_ex, denB_nil, denB_cons, dens, dn_var, dn_cst, dn_glo, dn_tup, dn_lst, dn_and, dn_or, dn_not, dn_neg, dn_bin, dn_cmp, dn_chn, dn_ite, dn_ix, dn_sl, dn_blt, dn_isi, dn_join, dn_get2, dn_call, dn_rng, dn_lc, ds_pass, ds_brk, ds_cnt, ds_drop, ds_ret, ds_retN, ds_retV, ds_set, ds_unp, ds_ite, ds_fore, ds_whl, ds_app, ds_ext, ds_clr, ds_frz, ds_lend, ds_callO, ds_raise, ds_tryM, denL, List.zip_cons_cons, List.zip_nil_left, List.zip_nil_right, sTry_k, tK_nx, tK_rt, tK_bk, tK_ct, tK_ex, catch_nil, catch_cons, caK_t, caK_f, noX_nx, noX_rt, noX_bk, noX_ct, oSeq_k, oK_nx, oK_rt, oK_bk, oK_ct, oK_ex, oK_st, oB_ok, oB_exc, Res.bind_ok, Res.bind_exc, Res.bind_stuck, sSet, sIf_k, oIf_t, oIf_f, sRet, sRetV, sRetN, sDrop, sFrz, sApp_k, appK_v, appK_o, sExt_k, extK_v, extK_o, sClr, onL, sLend, sCallO, onO, oBs_k, callO_k, cK_s, bK_nx, bK_rt, backO, argO, Option.map_some, sUnp_k, unpK_v, setAll, vals, sFor_k, forK_ok, whK_t, whK_f, whN_nx, whN_ct, whN_bk, whN_rt, whN_ex, eVar, eArgs_nil, eArgs_cons, eTup_k, eLst_k, tupK_s, lstK_s, frozs_nil, frozs_cons, froK_s, froz_v, froz_o, eAnd_k, eOr_k, eNot_k, eIte_k, andK_t, andK_f, orK_t, orK_f, iteK_t, iteK_f, notK_b, eNeg, neg_i, eBin, bin_add, bin_sub, bin_mul, bin_div, bin_mod, bin_pow, add_i, add_s, add_oo, add_ov, add_vo, add_vv, sub_i, mul_r, mul_l, mul_s, mul_o, div_p, mod_p, pow_p, eCmp, c_eq, c_ne, c_lt, c_le, c_gt, c_ge, c_is, c_in, c_nin, eq_ii, eq_ss, eq_bb, ne_ii, ne_ss, ne_bb, lt_ii, le_ii, gt_ii, ge_ii, in_ss, nin_ss, eIx, optR_some, ix_lv, ix_lo, ix_lb, ix_tv, ix_tb, ix_s, eSl_k, sl_s, sl_lv, sl_lo, sl_lb, sl_tv, part_none, part_some, pK_i, eBlt_k, len_s, len_lv, len_lo, len_lb, len_tv, len_tb, str_p, int_i, int_b, list_lv, list_lo, list_lb, list_tv, tuple_lv, tuple_lo, tuple_lb, tuple_tv, all_o, any_o, sum_o, min_i, max_i, eIsi_k, isi_bb, isi_ii, isi_bi, isi_ss, isi_st, isi_tt, isi_ts, isi_it, isi_ti, isi_si, isi_ll, isi_lb, isi_lo, eCall_k, arg_v, arg_o, arg_b, eJoin_k, joinX_s, join_o, joinK_s, eGlo, setR_f, setR_fo, setR_t, eSeqX_k, eSeq_k, it_lv, it_lo, it_tv, it_s, id_lv, id_lo, id_lb, id_tv, id_tb, id_s, eRngV_k, rng_1, rng_2, eLc_k, lcK_ok, ofD, Bt.fn, Ty.T, List.map_cons, List.map_nil, List.head?_cons, List.head?_nil, List.length_cons, List.length_nil, List.cons_append, List.nil_append, List.replicate_succ, List.replicate_zero, List.getElem?_cons_zero, List.getElem?_cons_succ, List.set_cons_zero, List.set_cons_succ, Nat.reduceSub, Nat.reduceAdd, Nat.zero_add, if_true, Bool.false_eq_true, if_false, Bool.and_true, Bool.true_and, Nat.zero_le, decide_true, Bool.or_true, Bool.true_or, decide_false, Int.reduceLT, Int.reduceLE, Int.reduceMul, Int.reduceAdd, Int.reduceSub, Int.reduceNeg, Int.reduceToNat, Int.reduceMod, Int.reduceDiv, Nat.reduceLeDiff, Nat.reduceLT, Bool.not_true, Bool.not_false, Bool.and_self, beq_self_eq_true, Int.reducePow, Nat.reducePow, Int.reduceBEq, d__law_leaf, List.length_map, b0, b1, m0, z2, z5]⟩
  · exact ⟨t, t1, by rw [t2]; simp only [dn_get1, dn_dct0, dn_din, ds_dput, dk_s, dk_i, dk_t0, dk_t1, dk_t2, dk_t3, sDput_k, dputA_d, dputC_k, eDin_k, din_v, din_o, din_b, ain_s, anin_s, dinC_t, dinC_f, ix_dv, ix_do, ix_db, ixC_k, getO_some, getO_none, getC_k, eGet1_k, eGet2_k, get1_v, get1_o, get1_b, get2_v, get2_o, get2_b, runD, runO, st0, run_rn, runO_rn, fin_nx, fin_rt, fin_ex, denB_nil, denB_cons, dens, dn_var, dn_cst, dn_glo, dn_tup, dn_lst, dn_and, dn_or, dn_not, dn_neg, dn_bin, dn_cmp, dn_chn, dn_ite, dn_ix, dn_sl, dn_blt, dn_isi, dn_join, dn_get2, dn_call, dn_rng, dn_lc, ds_pass, ds_brk, ds_cnt, ds_drop, ds_ret, ds_retN, ds_retV, ds_set, ds_unp, ds_ite, ds_fore, ds_whl, ds_app, ds_ext, ds_clr, ds_frz, ds_lend, ds_callO, ds_raise, ds_tryM, denL, List.zip_cons_cons, List.zip_nil_left, List.zip_nil_right, sTry_k, tK_nx, tK_rt, tK_bk, tK_ct, tK_ex, catch_nil, catch_cons, caK_t, caK_f, noX_nx, noX_rt, noX_bk, noX_ct, oSeq_k, oK_nx, oK_rt, oK_bk, oK_ct, oK_ex, oK_st, oB_ok, oB_exc, Res.bind_ok, Res.bind_exc, Res.bind_stuck, sSet, sIf_k, oIf_t, oIf_f, sRet, sRetV, sRetN, sDrop, sFrz, sApp_k, appK_v, appK_o, sExt_k, extK_v, extK_o, sClr, onL, sLend, sCallO, onO, oBs_k, callO_k, cK_s, bK_nx, bK_rt, backO, argO, Option.map_some, sUnp_k, unpK_v, setAll, vals, sFor_k, forK_ok, whK_t, whK_f, whN_nx, whN_ct, whN_bk, whN_rt, whN_ex, eVar, eArgs_nil, eArgs_cons, eTup_k, eLst_k, tupK_s, lstK_s, frozs_nil, frozs_cons, froK_s, froz_v, froz_o, eAnd_k, eOr_k, eNot_k, eIte_k, andK_t, andK_f, orK_t, orK_f, iteK_t, iteK_f, notK_b, eNeg, neg_i, eBin, bin_add, bin_sub, bin_mul, bin_div, bin_mod, bin_pow, add_i, add_s, add_oo, add_ov, add_vo, add_vv, sub_i, mul_r, mul_l, mul_s, mul_o, div_p, mod_p, pow_p, eCmp, c_eq, c_ne, c_lt, c_le, c_gt, c_ge, c_is, c_in, c_nin, eq_ii, eq_ss, eq_bb, ne_ii, ne_ss, ne_bb, lt_ii, le_ii, gt_ii, ge_ii, in_ss, nin_ss, eIx, optR_some, ix_lv, ix_lo, ix_lb, ix_tv, ix_tb, ix_s, eSl_k, sl_s, sl_lv, sl_lo, sl_lb, sl_tv, part_none, part_some, pK_i, eBlt_k, len_s, len_lv, len_lo, len_lb, len_tv, len_tb, str_p, int_i, int_b, list_lv, list_lo, list_lb, list_tv, tuple_lv, tuple_lo, tuple_lb, tuple_tv, all_o, any_o, sum_o, min_i, max_i, eIsi_k, isi_bb, isi_ii, isi_bi, isi_ss, isi_st, isi_tt, isi_ts, isi_it, isi_ti, isi_si, isi_ll, isi_lb, isi_lo, eCall_k, arg_v, arg_o, arg_b, eJoin_k, joinX_s, join_o, joinK_s, eGlo, setR_f, setR_fo, setR_t, eSeqX_k, eSeq_k, it_lv, it_lo, it_tv, it_s, id_lv, id_lo, id_lb, id_tv, id_tb, id_s, eRngV_k, rng_1, rng_2, eLc_k, lcK_ok, ofD, Bt.fn, Ty.T, List.map_cons, List.map_nil, List.head?_cons, List.head?_nil, List.length_cons, List.length_nil, List.cons_append, List.nil_append, List.replicate_succ, List.replicate_zero, List.getElem?_cons_zero, List.getElem?_cons_succ, List.set_cons_zero, List.set_cons_succ, Nat.reduceSub, Nat.reduceAdd, Nat.zero_add, if_true, Bool.false_eq_true, if_false, Bool.and_true, Bool.true_and, Nat.zero_le, decide_true, Bool.or_true, Bool.true_or, decide_false, Int.reduceLT, Int.reduceLE, Int.reduceMul, Int.reduceAdd, Int.reduceSub, Int.reduceNeg, Int.reduceToNat, Int.reduceMod, Int.reduceDiv, Nat.reduceLeDiff, Nat.reduceLT, Bool.not_true, Bool.not_false, Bool.and_self, beq_self_eq_true, Int.reducePow, Nat.reducePow, Int.reduceBEq, d__law_leaf, List.length_map, b0, m0, z2, z5]⟩
end
/-! ### the tree -/
def Z : Tr := .num 0 0 0
def lvt (l : List Tr) : Nat := (l.map Tr.lv).sum
def lkt (l : List Tr) : Nat := (l.map fun t => t.lack.length).sum
def mrg (l : List Tr) (k : Nat) : List Tr := l.take k ++ [.pr (l.getD k Z) (l.getD (k + 1) Z)] ++ l.drop (k + 2)
theorem mrg_len {l : List Tr} {k : Nat} (h : k + 1 < l.length) : (mrg l k).length + 1 = l.length := by
  unfold mrg
  simp only [List.length_append, List.length_take, List.length_drop, List.length_cons, List.length_nil]
  omega
theorem msplit {l : List Tr} {k : Nat} (h : k + 1 < l.length) : l = l.take k ++ (l.getD k Z :: l.getD (k + 1) Z :: l.drop (k + 2)) := by
  have h1 : l.drop k = l.getD k Z :: l.getD (k + 1) Z :: l.drop (k + 2) := by
    rw [List.drop_eq_getElem_cons (by omega : k < l.length), List.drop_eq_getElem_cons (by omega : k + 1 < l.length)]
    simp [List.getD, List.getElem?_eq_getElem (by omega : k < l.length), List.getElem?_eq_getElem (by omega : k + 1 < l.length)]
  rw [← h1, List.take_append_drop]
theorem mrg_ls {l : List Tr} {k : Nat} (h : k + 1 < l.length) : (mrg l k).flatMap Tr.ls = l.flatMap Tr.ls := by
  have e := congrArg (List.flatMap Tr.ls) (msplit h)
  rw [e]
  unfold mrg
  simp only [List.flatMap_append, List.flatMap_cons, List.flatMap_nil, Tr.ls, List.append_assoc, List.nil_append, List.append_nil]
theorem mrg_lv {l : List Tr} {k : Nat} (h : k + 1 < l.length) : lvt (mrg l k) = lvt l := by
  have e := congrArg lvt (msplit h)
  rw [e]
  unfold lvt mrg
  simp only [List.map_append, List.map_cons, List.map_nil, List.sum_append, List.sum_cons, List.sum_nil, Tr.lv]
  omega
theorem mrg_lk {l : List Tr} {k : Nat} (h : k + 1 < l.length) : lkt (mrg l k) = lkt l := by
  have e := congrArg lkt (msplit h)
  rw [e]
  unfold lkt mrg
  simp only [List.map_append, List.map_cons, List.map_nil, List.sum_append, List.sum_cons, List.sum_nil, Tr.lack, List.length_append]
  omega
theorem two_lk {l : List Tr} {k : Nat} (h : k + 1 < l.length) : (l.getD k Z).lack.length + (l.getD (k + 1) Z).lack.length ≤ lkt l := by
  have e := congrArg lkt (msplit h)
  rw [e]
  unfold lkt
  simp only [List.map_append, List.map_cons, List.sum_append, List.sum_cons]
  omega
theorem mrg_good {rows : List Rw} {l : List Tr} {k : Nat} (h : k + 1 < l.length) (g : ∀ t ∈ l, t.good rows) : ∀ t ∈ mrg l k, t.good rows := by
  intro t ht
  rw [msplit h] at g
  simp only [mrg, List.mem_append, List.mem_singleton] at ht
  rcases ht with (ht | rfl) | ht
  · exact g t (List.mem_append_left _ ht)
  · exact ⟨g _ (by simp), g _ (by simp)⟩
  · exact g t (by simp [ht])
theorem tget {l : List Tr} {k : Nat} (h : k < l.length) : atI (l.map Tr.d) (k : Int) = some (l.getD k Z).d := by
  rw [atI_map, atI_in (by omega) (by omega)]
  simp [List.getD, List.getElem?_eq_getElem h]
def trB : List Sm := match d__law_tree.body.getD 0 .pass with
  | .whl _ _ b => b
  | _ => []
theorem tree_go (n : Nat) (rows : List Rw) : ∀ (m f : Nat) (l : List Tr) (turn : Int) (b : Option R), l.length = m + 1 → m < f → l.length ≤ 100 → (∀ t ∈ l, t.good rows) → lkt l ≤ 100 →
    ∃ (t : Tr) (b' : Option R) (c : Int), t.ls = l.flatMap Tr.ls ∧ t.lv = lvt l ∧ t.good rows ∧ t.lack.length ≤ 100 ∧ whGo (den ⟨rnO T M (n + 1), M.glo, M.sub⟩ (.cmp .Gt (.blt .len [.var 1]) (.cst (.int 1)))) (denB ⟨rnO T M (n + 1), M.glo, M.sub⟩ trB) f
      [some (.val (.int turn)), some (.val (.lst (l.map Tr.d))), b] = .nx [some (.val (.int c)), some (.val (.lst [t.d])), b']
  | _, 0, _, _, _, _, hf, _, _, _ => by omega
  | 0, f + 1, l, turn, b, hl, _, _, hg, hk => by
    match l, hl with
    | [t], _ =>
      have d1 : decide ((1 : Int) < ((1 : Nat) : Int)) = false := rfl
      refine ⟨t, b, turn, by simp, by simp [lvt], hg t (by simp), by simpa [lkt] using hk, ?_⟩
      rw [whGo_k]
      simp only [dn_get1, dn_dct0, dn_din, ds_dput, dk_s, dk_i, dk_t0, dk_t1, dk_t2, dk_t3, sDput_k, dputA_d, dputC_k, eDin_k, din_v, din_o, din_b, ain_s, anin_s, dinC_t, dinC_f, ix_dv, ix_do, ix_db, ixC_k, getO_some, getO_none, getC_k, eGet1_k, eGet2_k, get1_v, get1_o, get1_b, get2_v, get2_o, get2_b, runD, runO, st0, run_rn, runO_rn, fin_nx, fin_rt, fin_ex, denB_nil, denB_cons, dens, dn_var, dn_cst, dn_glo, dn_tup, dn_lst, dn_and, dn_or, dn_not, dn_neg, dn_bin, dn_cmp, dn_chn, dn_ite, dn_ix, dn_sl, dn_blt, dn_isi, dn_join, dn_get2, dn_call, dn_rng, dn_lc, ds_pass, ds_brk, ds_cnt, ds_drop, ds_ret, ds_retN, ds_retV, ds_set, ds_unp, ds_ite, ds_fore, ds_whl, ds_app, ds_ext, ds_clr, ds_frz, ds_lend, ds_callO, ds_raise, ds_tryM, denL, List.zip_cons_cons, List.zip_nil_left, List.zip_nil_right, sTry_k, tK_nx, tK_rt, tK_bk, tK_ct, tK_ex, catch_nil, catch_cons, caK_t, caK_f, noX_nx, noX_rt, noX_bk, noX_ct, oSeq_k, oK_nx, oK_rt, oK_bk, oK_ct, oK_ex, oK_st, oB_ok, oB_exc, Res.bind_ok, Res.bind_exc, Res.bind_stuck, sSet, sIf_k, oIf_t, oIf_f, sRet, sRetV, sRetN, sDrop, sFrz, sApp_k, appK_v, appK_o, sExt_k, extK_v, extK_o, sClr, onL, sLend, sCallO, onO, oBs_k, callO_k, cK_s, bK_nx, bK_rt, backO, argO, Option.map_some, sUnp_k, unpK_v, setAll, vals, sFor_k, forK_ok, whK_t, whK_f, whN_nx, whN_ct, whN_bk, whN_rt, whN_ex, eVar, eArgs_nil, eArgs_cons, eTup_k, eLst_k, tupK_s, lstK_s, frozs_nil, frozs_cons, froK_s, froz_v, froz_o, eAnd_k, eOr_k, eNot_k, eIte_k, andK_t, andK_f, orK_t, orK_f, iteK_t, iteK_f, notK_b, eNeg, neg_i, eBin, bin_add, bin_sub, bin_mul, bin_div, bin_mod, bin_pow, add_i, add_s, add_oo, add_ov, add_vo, add_vv, sub_i, mul_r, mul_l, mul_s, mul_o, div_p, mod_p, pow_p, eCmp, c_eq, c_ne, c_lt, c_le, c_gt, c_ge, c_is, c_in, c_nin, eq_ii, eq_ss, eq_bb, ne_ii, ne_ss, ne_bb, lt_ii, le_ii, gt_ii, ge_ii, in_ss, nin_ss, eIx, optR_some, ix_lv, ix_lo, ix_lb, ix_tv, ix_tb, ix_s, eSl_k, sl_s, sl_lv, sl_lo, sl_lb, sl_tv, part_none, part_some, pK_i, eBlt_k, len_s, len_lv, len_lo, len_lb, len_tv, len_tb, str_p, int_i, int_b, list_lv, list_lo, list_lb, list_tv, tuple_lv, tuple_lo, tuple_lb, tuple_tv, all_o, any_o, sum_o, min_i, max_i, eIsi_k, isi_bb, isi_ii, isi_bi, isi_ss, isi_st, isi_tt, isi_ts, isi_it, isi_ti, isi_si, isi_ll, isi_lb, isi_lo, eCall_k, arg_v, arg_o, arg_b, eJoin_k, joinX_s, join_o, joinK_s, eGlo, setR_f, setR_fo, setR_t, eSeqX_k, eSeq_k, it_lv, it_lo, it_tv, it_s, id_lv, id_lo, id_lb, id_tv, id_tb, id_s, eRngV_k, rng_1, rng_2, eLc_k, lcK_ok, ofD, Bt.fn, Ty.T, List.map_cons, List.map_nil, List.head?_cons, List.head?_nil, List.length_cons, List.length_nil, List.cons_append, List.nil_append, List.replicate_succ, List.replicate_zero, List.getElem?_cons_zero, List.getElem?_cons_succ, List.set_cons_zero, List.set_cons_succ, Nat.reduceSub, Nat.reduceAdd, Nat.zero_add, if_true, Bool.false_eq_true, if_false, Bool.and_true, Bool.true_and, Nat.zero_le, decide_true, Bool.or_true, Bool.true_or, decide_false, Int.reduceLT, Int.reduceLE, Int.reduceMul, Int.reduceAdd, Int.reduceSub, Int.reduceNeg, Int.reduceToNat, Int.reduceMod, Int.reduceDiv, Nat.reduceLeDiff, Nat.reduceLT, Bool.not_true, Bool.not_false, Bool.and_self, beq_self_eq_true, Int.reducePow, Nat.reducePow, Int.reduceBEq, List.map_cons, List.map_nil, d1]
  | m + 1, f + 1, l, turn, b, hl, hf, hz, hg, hlk => by
    have pos : (0 : Int) < (l.length : Int) - 1 := by omega
    obtain ⟨k, hk⟩ := Int.eq_ofNat_of_zero_le (Int.emod_nonneg turn (by omega : (l.length : Int) - 1 ≠ 0))
    have hk2 : k + 1 < l.length := by have := Int.emod_lt_of_pos turn pos; omega
    have d1 : decide ((1 : Int) < (l.length : Int)) = true := decide_eq_true (by omega)
    obtain ⟨t', b', c', h1, h2, h3, h4, h5⟩ := tree_go n rows m f (mrg l k) (turn / 7 + 1) (some (.val (.int k))) (by have := mrg_len hk2; omega) (by omega) (by have := mrg_len hk2; omega) (mrg_good hk2 hg) (by rw [mrg_lk hk2]; exact hlk)
    refine ⟨t', b', c', by rw [h1, mrg_ls hk2], by rw [h2, mrg_lv hk2], h3, h4, ?_⟩
    rw [← h5]
    have g0 := tget (k := k) (l := l) (by omega)
    have g1 := tget (k := k + 1) (l := l) hk2
    have ck : ((k + 1 : Nat) : Int) = (k : Int) + 1 := by omega
    have ck2 : ((k + 2 : Nat) : Int) = (k : Int) + 2 := by omega
    rw [ck] at g1
    have z2 : (1 : Nat) ≤ LIM := by decide
    have hb := both_eq n (l.getD k Z) (l.getD (k + 1) Z) (Nat.le_trans (two_lk hk2) (by omega))
    have cD : cutL (l.map Tr.d) none (some (k : Int)) = (l.take k).map Tr.d := by rw [cutL_to, List.map_take]
    have cD2 : cutL (l.map Tr.d) (some ((k : Int) + 2)) none = (l.drop (k + 2)).map Tr.d := by rw [← ck2, cutL_from, List.map_drop]
    have w1 : (l.take k).length + 1 ≤ LIM := lim_mid (by rw [List.length_take]; omega)
    have w2 : ∀ d : D, (((l.take k).map Tr.d ++ [d]).length + (l.drop (k + 2)).length) ≤ LIM := fun d => lim_mid (by simp only [List.length_append, List.length_map, List.length_take, List.length_drop, List.length_cons, List.length_nil]; omega)
    have fin : (mrg l k).map Tr.d = (l.take k).map Tr.d ++ [(Tr.pr (l.getD k Z) (l.getD (k + 1) Z)).d] ++ (l.drop (k + 2)).map Tr.d := by
      unfold mrg
      simp only [List.map_append, List.map_cons, List.map_nil]
    rw [whGo_k]
    simp only [dn_get1, dn_dct0, dn_din, ds_dput, dk_s, dk_i, dk_t0, dk_t1, dk_t2, dk_t3, sDput_k, dputA_d, dputC_k, eDin_k, din_v, din_o, din_b, ain_s, anin_s, dinC_t, dinC_f, ix_dv, ix_do, ix_db, ixC_k, getO_some, getO_none, getC_k, eGet1_k, eGet2_k, get1_v, get1_o, get1_b, get2_v, get2_o, get2_b, runD, runO, st0, run_rn, runO_rn, fin_nx, fin_rt, fin_ex, denB_nil, denB_cons, dens, dn_var, dn_cst, dn_glo, dn_tup, dn_lst, dn_and, dn_or, dn_not, dn_neg, dn_bin, dn_cmp, dn_chn, dn_ite, dn_ix, dn_sl, dn_blt, dn_isi, dn_join, dn_get2, dn_call, dn_rng, dn_lc, ds_pass, ds_brk, ds_cnt, ds_drop, ds_ret, ds_retN, ds_retV, ds_set, ds_unp, ds_ite, ds_fore, ds_whl, ds_app, ds_ext, ds_clr, ds_frz, ds_lend, ds_callO, ds_raise, ds_tryM, denL, List.zip_cons_cons, List.zip_nil_left, List.zip_nil_right, sTry_k, tK_nx, tK_rt, tK_bk, tK_ct, tK_ex, catch_nil, catch_cons, caK_t, caK_f, noX_nx, noX_rt, noX_bk, noX_ct, oSeq_k, oK_nx, oK_rt, oK_bk, oK_ct, oK_ex, oK_st, oB_ok, oB_exc, Res.bind_ok, Res.bind_exc, Res.bind_stuck, sSet, sIf_k, oIf_t, oIf_f, sRet, sRetV, sRetN, sDrop, sFrz, sApp_k, appK_v, appK_o, sExt_k, extK_v, extK_o, sClr, onL, sLend, sCallO, onO, oBs_k, callO_k, cK_s, bK_nx, bK_rt, backO, argO, Option.map_some, sUnp_k, unpK_v, setAll, vals, sFor_k, forK_ok, whK_t, whK_f, whN_nx, whN_ct, whN_bk, whN_rt, whN_ex, eVar, eArgs_nil, eArgs_cons, eTup_k, eLst_k, tupK_s, lstK_s, frozs_nil, frozs_cons, froK_s, froz_v, froz_o, eAnd_k, eOr_k, eNot_k, eIte_k, andK_t, andK_f, orK_t, orK_f, iteK_t, iteK_f, notK_b, eNeg, neg_i, eBin, bin_add, bin_sub, bin_mul, bin_div, bin_mod, bin_pow, add_i, add_s, add_oo, add_ov, add_vo, add_vv, sub_i, mul_r, mul_l, mul_s, mul_o, div_p, mod_p, pow_p, eCmp, c_eq, c_ne, c_lt, c_le, c_gt, c_ge, c_is, c_in, c_nin, eq_ii, eq_ss, eq_bb, ne_ii, ne_ss, ne_bb, lt_ii, le_ii, gt_ii, ge_ii, in_ss, nin_ss, eIx, optR_some, ix_lv, ix_lo, ix_lb, ix_tv, ix_tb, ix_s, eSl_k, sl_s, sl_lv, sl_lo, sl_lb, sl_tv, part_none, part_some, pK_i, eBlt_k, len_s, len_lv, len_lo, len_lb, len_tv, len_tb, str_p, int_i, int_b, list_lv, list_lo, list_lb, list_tv, tuple_lv, tuple_lo, tuple_lb, tuple_tv, all_o, any_o, sum_o, min_i, max_i, eIsi_k, isi_bb, isi_ii, isi_bi, isi_ss, isi_st, isi_tt, isi_ts, isi_it, isi_ti, isi_si, isi_ll, isi_lb, isi_lo, eCall_k, arg_v, arg_o, arg_b, eJoin_k, joinX_s, join_o, joinK_s, eGlo, setR_f, setR_fo, setR_t, eSeqX_k, eSeq_k, it_lv, it_lo, it_tv, it_s, id_lv, id_lo, id_lb, id_tv, id_tb, id_s, eRngV_k, rng_1, rng_2, eLc_k, lcK_ok, ofD, Bt.fn, Ty.T, List.map_cons, List.map_nil, List.head?_cons, List.head?_nil, List.length_cons, List.length_nil, List.cons_append, List.nil_append, List.replicate_succ, List.replicate_zero, List.getElem?_cons_zero, List.getElem?_cons_succ, List.set_cons_zero, List.set_cons_succ, Nat.reduceSub, Nat.reduceAdd, Nat.zero_add, if_true, Bool.false_eq_true, if_false, Bool.and_true, Bool.true_and, Nat.zero_le, decide_true, Bool.or_true, Bool.true_or, decide_false, Int.reduceLT, Int.reduceLE, Int.reduceMul, Int.reduceAdd, Int.reduceSub, Int.reduceNeg, Int.reduceToNat, Int.reduceMod, Int.reduceDiv, Nat.reduceLeDiff, Nat.reduceLT, Bool.not_true, Bool.not_false, Bool.and_self, beq_self_eq_true, Int.reducePow, Nat.reducePow, Int.reduceBEq, trB, d__law_tree, List.getD_cons_succ, List.getD_cons_zero, List.length_map, d1, pos, hk, g0, g1, z2, cD, cD2, w1, w2, hb]
    rw [fin]
theorem tree_eq2 (n : Nat) (rows : List Rw) (l : List Tr) (turn : Int) (h1 : 1 ≤ l.length) (h2 : l.length ≤ 100) (hg : ∀ t ∈ l, t.good rows) (hk : lkt l ≤ 100) :
    ∃ t : Tr, t.ls = l.flatMap Tr.ls ∧ t.lv = lvt l ∧ t.good rows ∧ t.lack.length ≤ 100 ∧ rn T M (n + 2) 7 [.val (.int turn), .val (.lst (l.map Tr.d))] = .ok (.val t.d) := by
  obtain ⟨t, b', c, q1, q2, q3, q4, q5⟩ := tree_go n rows (l.length - 1) 1000 l turn none (by omega) (by omega) h2 hg hk
  refine ⟨t, q1, q2, q3, q4, ?_⟩
  rw [rn_at (F := d__law_tree) rfl]
  simp only [trB, d__law_tree, List.getD_cons_succ, List.getD_cons_zero] at q5
  simp only [dn_get1, dn_dct0, dn_din, ds_dput, dk_s, dk_i, dk_t0, dk_t1, dk_t2, dk_t3, sDput_k, dputA_d, dputC_k, eDin_k, din_v, din_o, din_b, ain_s, anin_s, dinC_t, dinC_f, ix_dv, ix_do, ix_db, ixC_k, getO_some, getO_none, getC_k, eGet1_k, eGet2_k, get1_v, get1_o, get1_b, get2_v, get2_o, get2_b, runD, runO, st0, run_rn, runO_rn, fin_nx, fin_rt, fin_ex, denB_nil, denB_cons, dens, dn_var, dn_cst, dn_glo, dn_tup, dn_lst, dn_and, dn_or, dn_not, dn_neg, dn_bin, dn_cmp, dn_chn, dn_ite, dn_ix, dn_sl, dn_blt, dn_isi, dn_join, dn_get2, dn_call, dn_rng, dn_lc, ds_pass, ds_brk, ds_cnt, ds_drop, ds_ret, ds_retN, ds_retV, ds_set, ds_unp, ds_ite, ds_fore, ds_whl, ds_app, ds_ext, ds_clr, ds_frz, ds_lend, ds_callO, ds_raise, ds_tryM, denL, List.zip_cons_cons, List.zip_nil_left, List.zip_nil_right, sTry_k, tK_nx, tK_rt, tK_bk, tK_ct, tK_ex, catch_nil, catch_cons, caK_t, caK_f, noX_nx, noX_rt, noX_bk, noX_ct, oSeq_k, oK_nx, oK_rt, oK_bk, oK_ct, oK_ex, oK_st, oB_ok, oB_exc, Res.bind_ok, Res.bind_exc, Res.bind_stuck, sSet, sIf_k, oIf_t, oIf_f, sRet, sRetV, sRetN, sDrop, sFrz, sApp_k, appK_v, appK_o, sExt_k, extK_v, extK_o, sClr, onL, sLend, sCallO, onO, oBs_k, callO_k, cK_s, bK_nx, bK_rt, backO, argO, Option.map_some, sUnp_k, unpK_v, setAll, vals, sFor_k, forK_ok, whK_t, whK_f, whN_nx, whN_ct, whN_bk, whN_rt, whN_ex, eVar, eArgs_nil, eArgs_cons, eTup_k, eLst_k, tupK_s, lstK_s, frozs_nil, frozs_cons, froK_s, froz_v, froz_o, eAnd_k, eOr_k, eNot_k, eIte_k, andK_t, andK_f, orK_t, orK_f, iteK_t, iteK_f, notK_b, eNeg, neg_i, eBin, bin_add, bin_sub, bin_mul, bin_div, bin_mod, bin_pow, add_i, add_s, add_oo, add_ov, add_vo, add_vv, sub_i, mul_r, mul_l, mul_s, mul_o, div_p, mod_p, pow_p, eCmp, c_eq, c_ne, c_lt, c_le, c_gt, c_ge, c_is, c_in, c_nin, eq_ii, eq_ss, eq_bb, ne_ii, ne_ss, ne_bb, lt_ii, le_ii, gt_ii, ge_ii, in_ss, nin_ss, eIx, optR_some, ix_lv, ix_lo, ix_lb, ix_tv, ix_tb, ix_s, eSl_k, sl_s, sl_lv, sl_lo, sl_lb, sl_tv, part_none, part_some, pK_i, eBlt_k, len_s, len_lv, len_lo, len_lb, len_tv, len_tb, str_p, int_i, int_b, list_lv, list_lo, list_lb, list_tv, tuple_lv, tuple_lo, tuple_lb, tuple_tv, all_o, any_o, sum_o, min_i, max_i, eIsi_k, isi_bb, isi_ii, isi_bi, isi_ss, isi_st, isi_tt, isi_ts, isi_it, isi_ti, isi_si, isi_ll, isi_lb, isi_lo, eCall_k, arg_v, arg_o, arg_b, eJoin_k, joinX_s, join_o, joinK_s, eGlo, setR_f, setR_fo, setR_t, eSeqX_k, eSeq_k, it_lv, it_lo, it_tv, it_s, id_lv, id_lo, id_lb, id_tv, id_tb, id_s, eRngV_k, rng_1, rng_2, eLc_k, lcK_ok, ofD, Bt.fn, Ty.T, List.map_cons, List.map_nil, List.head?_cons, List.head?_nil, List.length_cons, List.length_nil, List.cons_append, List.nil_append, List.replicate_succ, List.replicate_zero, List.getElem?_cons_zero, List.getElem?_cons_succ, List.set_cons_zero, List.set_cons_succ, Nat.reduceSub, Nat.reduceAdd, Nat.zero_add, if_true, Bool.false_eq_true, if_false, Bool.and_true, Bool.true_and, Nat.zero_le, decide_true, Bool.or_true, Bool.true_or, decide_false, Int.reduceLT, Int.reduceLE, Int.reduceMul, Int.reduceAdd, Int.reduceSub, Int.reduceNeg, Int.reduceToNat, Int.reduceMod, Int.reduceDiv, Nat.reduceLeDiff, Nat.reduceLT, Bool.not_true, Bool.not_false, Bool.and_self, beq_self_eq_true, Int.reducePow, Nat.reducePow, Int.reduceBEq, d__law_tree, q5, atI0]
theorem cut_map (ns : List Int) (a b : Option Int) : cutL (ns.map D.int) a b = (cutL ns a b).map D.int := by
  unfold cutL
  rw [List.length_map, List.map_take, List.map_drop]
theorem cut_len (ns : List Int) (a b : Option Int) : (cutL ns a b).length ≤ ns.length := by
  unfold cutL
  rw [List.length_take, List.length_drop]
  omega
theorem eqOk_rr (a b : List Rw) : eqOk (.lst (a.map Rw.d)) (.lst (b.map Rw.d)) = true := by
  have x := rws_no a
  have y := rws_no b
  simp [eqOk, noD, dep, x.1, y.1]
  omega
theorem deq_rr (a : List Rw) : deq (.lst (a.map Rw.d)) (.lst (a.map Rw.d)) = true := deq_refl _ (by simp only [noD]; exact (rws_no a).1)
theorem leaves_l {rows : List Rw} : ∀ {l : List Tr}, (∀ t ∈ l, t.leaf rows) → l.flatMap Tr.ls = l ∧ lvt l = l.length ∧ lkt l ≤ l.length
  | [], _ => ⟨rfl, rfl, Nat.le_refl _⟩
  | t :: l, h => by
    obtain ⟨a, b, c⟩ := leaves_l (l := l) fun x hx => h x (List.mem_cons_of_mem _ hx)
    obtain ⟨p, _, q, r⟩ := h t List.mem_cons_self
    unfold lvt at b
    unfold lkt at c
    refine ⟨by rw [List.flatMap_cons, p, a]; rfl, ?_, ?_⟩
    · simp only [lvt, List.map_cons, List.sum_cons, b, q, List.length_cons]; omega
    · simp only [lkt, List.map_cons, List.sum_cons, List.length_cons]; omega
theorem cpEq_ve (a : List Rw) : cpEq (.val (.lst (a.map Rw.d))) (.own (.lst [])) = .ok (.val (.bl a.isEmpty)) := by
  have e := eqOk_rr a []
  show (if eqOk (.lst (a.map Rw.d)) (.lst (([] : List Rw).map Rw.d)) = true then _ else _) = _
  rw [if_pos e]
  cases a <;> rfl
theorem cpNe_ov (a : List Rw) : cpNe (.bor (.lst (a.map Rw.d))) (.val (.lst (a.map Rw.d))) = .ok (.val (.bl false)) := by
  show (if eqOk (.lst (a.map Rw.d)) (.lst (a.map Rw.d)) = true then Res.ok (R.val (.bl !deq (.lst (a.map Rw.d)) (.lst (a.map Rw.d)))) else _) = _
  rw [if_pos (eqOk_rr a a), deq_rr]
  rfl
def isNm (d : D) : Bool := match d with
  | .tup (.tup (.str w :: _) :: _) => w == "name"
  | _ => false
theorem isNm_leaf {rows : List Rw} {t : Tr} (h : t.leaf rows) : isNm t.d = t.isRow := by
  cases t with
  | num m a b => exact w_nn
  | row r k => exact beq_self_eq_true _
  | pr x y => have := h.2.2.1; have a := x.dp_le; have b := y.dp_le; simp only [Tr.lv] at this; omega
theorem tr_no : ∀ t : Tr, noD t.kind = true ∧ noD t.one = true ∧ noD t.oth = true
  | .num _ _ _ => ⟨rfl, rfl, rfl⟩
  | .row r _ => ⟨rfl, rfl, (ot_no r.o).1⟩
  | .pr x y => by
    obtain ⟨a, b, c⟩ := tr_no x
    obtain ⟨a', b', c'⟩ := tr_no y
    simp [Tr.kind, Tr.one, Tr.oth, noD, noDs, a, b, c, a', b', c']
theorem trd_no (t : Tr) : noD t.d = true := by
  obtain ⟨a, b, c⟩ := tr_no t
  simp [Tr.d, noD, noDs, a, b, c, (rws_no t.lack).1]
theorem trs_no : ∀ l : List Tr, noDs (l.map Tr.d) = true
  | [] => rfl
  | t :: l => by simp [noDs, trd_no t, trs_no l]
theorem cpEq_te (l : List Tr) : cpEq (.val (.lst (l.map Tr.d))) (.own (.lst [])) = .ok (.val (.bl l.isEmpty)) := by
  have e : eqOk (.lst (l.map Tr.d)) (.lst []) = true := by simp [eqOk, noD, noDs, dep, deps, trs_no l]
  show (if eqOk (.lst (l.map Tr.d)) (.lst []) = true then _ else _) = _
  rw [if_pos e]
  cases l <;> rfl
theorem filt : ∀ {rows : List Rw} {l : List Tr}, (∀ t ∈ l, t.leaf rows) → List.map id (List.filter isNm (l.map Tr.d)) = (l.filter Tr.isRow).map Tr.d
  | _, [], _ => rfl
  | rows, t :: l, h => by
    have ih := filt (l := l) fun x hx => h x (List.mem_cons_of_mem _ hx)
    have e := isNm_leaf (h t List.mem_cons_self)
    rw [List.map_id] at ih ⊢
    rw [List.map_cons, List.filter_cons, List.filter_cons, e]
    cases t.isRow
    · exact ih
    · show _ :: _ = _ :: _
      rw [ih]
theorem law_true (ns : List Int) (hn : ns.length ≤ 63) : rn T M 40 9 [.bor (.lst (ns.map D.int))] = .ok (.val (.bl true)) := by
  rw [rn_at (F := d_law) rfl]
  obtain ⟨c0, e0⟩ := cell_eq 38 ns 0 (by omega) (by omega)
  obtain ⟨c1, e1⟩ := cell_eq 38 ns 1 (by omega) (by omega)
  obtain ⟨c2, e2⟩ := cell_eq 38 ns 2 (by omega) (by omega)
  obtain ⟨w0, w1, w2, n0, n2, ew⟩ := words_eq3 38 c0
  have hrow := fun c => Classical.choose_spec (row_eq n0 n2 38 c)
  generalize hf : (fun c => Classical.choose (row_eq n0 n2 38 c)) = rf at hrow
  have hrow : ∀ c, (rf c).ok w0 w1 w2 ∧ rn T M 39 3 [.val (.int c), .val (.lst [.str w0, .str w1, .str w2])] = .ok (.val (rf c).d) := fun c => by rw [← hf]; exact Classical.choose_spec (row_eq n0 n2 38 c)
  have hk : ∀ d ∈ (cutL ns (some 3) (some 27)).map D.int, ∃ ρ r, bindD (.one 3) d (wipeE [some (.bor (.lst (ns.map D.int))), some (.val (.lst [.str w0, .str w1, .str w2])), none, none, none, none, none, none, none, none, none, none, none, none] (Tg.one 3).slots) = some ρ ∧ den ⟨rnO T M 39, M.glo, M.sub⟩ (.call 3 [.var 3, .var 1]) ρ = .ok r ∧ r.froz = some ((fun d => match d with | .int c => (rf c).d | _ => .non) d) := fun d hd => by
    obtain ⟨c, _, rfl⟩ := List.mem_map.mp hd
    exact ⟨_, _, rfl, by simp only [dn_get1, dn_dct0, dn_din, ds_dput, dk_s, dk_i, dk_t0, dk_t1, dk_t2, dk_t3, sDput_k, dputA_d, dputC_k, eDin_k, din_v, din_o, din_b, ain_s, anin_s, dinC_t, dinC_f, ix_dv, ix_do, ix_db, ixC_k, getO_some, getO_none, getC_k, eGet1_k, eGet2_k, get1_v, get1_o, get1_b, get2_v, get2_o, get2_b, runD, runO, st0, run_rn, runO_rn, fin_nx, fin_rt, fin_ex, denB_nil, denB_cons, dens, dn_var, dn_cst, dn_glo, dn_tup, dn_lst, dn_and, dn_or, dn_not, dn_neg, dn_bin, dn_cmp, dn_chn, dn_ite, dn_ix, dn_sl, dn_blt, dn_isi, dn_join, dn_get2, dn_call, dn_rng, dn_lc, ds_pass, ds_brk, ds_cnt, ds_drop, ds_ret, ds_retN, ds_retV, ds_set, ds_unp, ds_ite, ds_fore, ds_whl, ds_app, ds_ext, ds_clr, ds_frz, ds_lend, ds_callO, ds_raise, ds_tryM, denL, List.zip_cons_cons, List.zip_nil_left, List.zip_nil_right, sTry_k, tK_nx, tK_rt, tK_bk, tK_ct, tK_ex, catch_nil, catch_cons, caK_t, caK_f, noX_nx, noX_rt, noX_bk, noX_ct, oSeq_k, oK_nx, oK_rt, oK_bk, oK_ct, oK_ex, oK_st, oB_ok, oB_exc, Res.bind_ok, Res.bind_exc, Res.bind_stuck, sSet, sIf_k, oIf_t, oIf_f, sRet, sRetV, sRetN, sDrop, sFrz, sApp_k, appK_v, appK_o, sExt_k, extK_v, extK_o, sClr, onL, sLend, sCallO, onO, oBs_k, callO_k, cK_s, bK_nx, bK_rt, backO, argO, Option.map_some, sUnp_k, unpK_v, setAll, vals, sFor_k, forK_ok, whK_t, whK_f, whN_nx, whN_ct, whN_bk, whN_rt, whN_ex, eVar, eArgs_nil, eArgs_cons, eTup_k, eLst_k, tupK_s, lstK_s, frozs_nil, frozs_cons, froK_s, froz_v, froz_o, eAnd_k, eOr_k, eNot_k, eIte_k, andK_t, andK_f, orK_t, orK_f, iteK_t, iteK_f, notK_b, eNeg, neg_i, eBin, bin_add, bin_sub, bin_mul, bin_div, bin_mod, bin_pow, add_i, add_s, add_oo, add_ov, add_vo, add_vv, sub_i, mul_r, mul_l, mul_s, mul_o, div_p, mod_p, pow_p, eCmp, c_eq, c_ne, c_lt, c_le, c_gt, c_ge, c_is, c_in, c_nin, eq_ii, eq_ss, eq_bb, ne_ii, ne_ss, ne_bb, lt_ii, le_ii, gt_ii, ge_ii, in_ss, nin_ss, eIx, optR_some, ix_lv, ix_lo, ix_lb, ix_tv, ix_tb, ix_s, eSl_k, sl_s, sl_lv, sl_lo, sl_lb, sl_tv, part_none, part_some, pK_i, eBlt_k, len_s, len_lv, len_lo, len_lb, len_tv, len_tb, str_p, int_i, int_b, list_lv, list_lo, list_lb, list_tv, tuple_lv, tuple_lo, tuple_lb, tuple_tv, all_o, any_o, sum_o, min_i, max_i, eIsi_k, isi_bb, isi_ii, isi_bi, isi_ss, isi_st, isi_tt, isi_ts, isi_it, isi_ti, isi_si, isi_ll, isi_lb, isi_lo, eCall_k, arg_v, arg_o, arg_b, eJoin_k, joinX_s, join_o, joinK_s, eGlo, setR_f, setR_fo, setR_t, eSeqX_k, eSeq_k, it_lv, it_lo, it_tv, it_s, id_lv, id_lo, id_lb, id_tv, id_tb, id_s, eRngV_k, rng_1, rng_2, eLc_k, lcK_ok, ofD, Bt.fn, Ty.T, List.map_cons, List.map_nil, List.head?_cons, List.head?_nil, List.length_cons, List.length_nil, List.cons_append, List.nil_append, List.replicate_succ, List.replicate_zero, List.getElem?_cons_zero, List.getElem?_cons_succ, List.set_cons_zero, List.set_cons_succ, Nat.reduceSub, Nat.reduceAdd, Nat.zero_add, if_true, Bool.false_eq_true, if_false, Bool.and_true, Bool.true_and, Nat.zero_le, decide_true, Bool.or_true, Bool.true_or, decide_false, Int.reduceLT, Int.reduceLE, Int.reduceMul, Int.reduceAdd, Int.reduceSub, Int.reduceNeg, Int.reduceToNat, Int.reduceMod, Int.reduceDiv, Nat.reduceLeDiff, Nat.reduceLT, Bool.not_true, Bool.not_false, Bool.and_self, beq_self_eq_true, Int.reducePow, Nat.reducePow, Int.reduceBEq, wipeE, Tg.slots, (hrow c).2]; rfl, rfl⟩
  have lr := cut_len ns (some 3) (some 27)
  simp only [dn_get1, dn_dct0, dn_din, ds_dput, dk_s, dk_i, dk_t0, dk_t1, dk_t2, dk_t3, sDput_k, dputA_d, dputC_k, eDin_k, din_v, din_o, din_b, ain_s, anin_s, dinC_t, dinC_f, ix_dv, ix_do, ix_db, ixC_k, getO_some, getO_none, getC_k, eGet1_k, eGet2_k, get1_v, get1_o, get1_b, get2_v, get2_o, get2_b, runD, runO, st0, run_rn, runO_rn, fin_nx, fin_rt, fin_ex, denB_nil, denB_cons, dens, dn_var, dn_cst, dn_glo, dn_tup, dn_lst, dn_and, dn_or, dn_not, dn_neg, dn_bin, dn_cmp, dn_chn, dn_ite, dn_ix, dn_sl, dn_blt, dn_isi, dn_join, dn_get2, dn_call, dn_rng, dn_lc, ds_pass, ds_brk, ds_cnt, ds_drop, ds_ret, ds_retN, ds_retV, ds_set, ds_unp, ds_ite, ds_fore, ds_whl, ds_app, ds_ext, ds_clr, ds_frz, ds_lend, ds_callO, ds_raise, ds_tryM, denL, List.zip_cons_cons, List.zip_nil_left, List.zip_nil_right, sTry_k, tK_nx, tK_rt, tK_bk, tK_ct, tK_ex, catch_nil, catch_cons, caK_t, caK_f, noX_nx, noX_rt, noX_bk, noX_ct, oSeq_k, oK_nx, oK_rt, oK_bk, oK_ct, oK_ex, oK_st, oB_ok, oB_exc, Res.bind_ok, Res.bind_exc, Res.bind_stuck, sSet, sIf_k, oIf_t, oIf_f, sRet, sRetV, sRetN, sDrop, sFrz, sApp_k, appK_v, appK_o, sExt_k, extK_v, extK_o, sClr, onL, sLend, sCallO, onO, oBs_k, callO_k, cK_s, bK_nx, bK_rt, backO, argO, Option.map_some, sUnp_k, unpK_v, setAll, vals, sFor_k, forK_ok, whK_t, whK_f, whN_nx, whN_ct, whN_bk, whN_rt, whN_ex, eVar, eArgs_nil, eArgs_cons, eTup_k, eLst_k, tupK_s, lstK_s, frozs_nil, frozs_cons, froK_s, froz_v, froz_o, eAnd_k, eOr_k, eNot_k, eIte_k, andK_t, andK_f, orK_t, orK_f, iteK_t, iteK_f, notK_b, eNeg, neg_i, eBin, bin_add, bin_sub, bin_mul, bin_div, bin_mod, bin_pow, add_i, add_s, add_oo, add_ov, add_vo, add_vv, sub_i, mul_r, mul_l, mul_s, mul_o, div_p, mod_p, pow_p, eCmp, c_eq, c_ne, c_lt, c_le, c_gt, c_ge, c_is, c_in, c_nin, eq_ii, eq_ss, eq_bb, ne_ii, ne_ss, ne_bb, lt_ii, le_ii, gt_ii, ge_ii, in_ss, nin_ss, eIx, optR_some, ix_lv, ix_lo, ix_lb, ix_tv, ix_tb, ix_s, eSl_k, sl_s, sl_lv, sl_lo, sl_lb, sl_tv, part_none, part_some, pK_i, eBlt_k, len_s, len_lv, len_lo, len_lb, len_tv, len_tb, str_p, int_i, int_b, list_lv, list_lo, list_lb, list_tv, tuple_lv, tuple_lo, tuple_lb, tuple_tv, all_o, any_o, sum_o, min_i, max_i, eIsi_k, isi_bb, isi_ii, isi_bi, isi_ss, isi_st, isi_tt, isi_ts, isi_it, isi_ti, isi_si, isi_ll, isi_lb, isi_lo, eCall_k, arg_v, arg_o, arg_b, eJoin_k, joinX_s, join_o, joinK_s, eGlo, setR_f, setR_fo, setR_t, eSeqX_k, eSeq_k, it_lv, it_lo, it_tv, it_s, id_lv, id_lo, id_lb, id_tv, id_tb, id_s, eRngV_k, rng_1, rng_2, eLc_k, lcK_ok, ofD, Bt.fn, Ty.T, List.map_cons, List.map_nil, List.head?_cons, List.head?_nil, List.length_cons, List.length_nil, List.cons_append, List.nil_append, List.replicate_succ, List.replicate_zero, List.getElem?_cons_zero, List.getElem?_cons_succ, List.set_cons_zero, List.set_cons_succ, Nat.reduceSub, Nat.reduceAdd, Nat.zero_add, if_true, Bool.false_eq_true, if_false, Bool.and_true, Bool.true_and, Nat.zero_le, decide_true, Bool.or_true, Bool.true_or, decide_false, Int.reduceLT, Int.reduceLE, Int.reduceMul, Int.reduceAdd, Int.reduceSub, Int.reduceNeg, Int.reduceToNat, Int.reduceMod, Int.reduceDiv, Nat.reduceLeDiff, Nat.reduceLT, Bool.not_true, Bool.not_false, Bool.and_self, beq_self_eq_true, Int.reducePow, Nat.reducePow, Int.reduceBEq, d_law, e0, ew, e1, e2, cut_map]
  rw [lcGo_map hk (by rw [List.length_map, List.length_nil]; exact lim_small (by omega)), List.map_map]
  have hrs : (cutL ns (some 3) (some 27)).map ((fun d => match d with | .int c => (rf c).d | _ => .non) ∘ D.int) = ((cutL ns (some 3) (some 27)).map rf).map Rw.d := by rw [List.map_map]; rfl
  rw [hrs]
  have hok : ∀ r ∈ (cutL ns (some 3) (some 27)).map rf, r.ok w0 w1 w2 := fun r hr => by
    obtain ⟨c, _, rfl⟩ := List.mem_map.mp hr
    exact (hrow c).1
  have hl : ((cutL ns (some 3) (some 27)).map rf).length ≤ 63 := by rw [List.length_map]; omega
  generalize (cutL ns (some 3) (some 27)).map rf = rows at hok hl
  generalize hcc : c1 % 2147483647 = c
  have hleaf := fun x => leaf_eq n0 n2 37 x rows hok (by omega)
  generalize hg : (fun x => Classical.choose (hleaf x)) = lf
  have hleaf : ∀ x, (lf x).leaf rows ∧ rn T M 39 5 [.val (.int x), .val (.lst (rows.map Rw.d)), .val (.lst [.str w0, .str w1, .str w2])] = .ok (.val (lf x).d) := fun x => by rw [← hg]; exact Classical.choose_spec (hleaf x)
  have hk2 : ∀ d ∈ rngD 0 (1 + c / 5 % 8).toNat, ∃ ρ r, bindD (.one 12) d (wipeE [some (.bor (.lst (ns.map D.int))), some (.val (.lst [.str w0, .str w1, .str w2])), some (.val (.lst (rows.map Rw.d))), some (.val (.int c)), none, none, none, none, none, none, none, none, none, none] (Tg.one 12).slots) = some ρ ∧
      den ⟨rnO T M 39, M.glo, M.sub⟩ (.call 5 [.bin .Mod (.bin .Mult (.var 3) (.bin .Add (.bin .Mult (.var 12) (.var 12)) (.cst (.int 1)))) (.cst (.int 2147483647)), .var 2, .var 1]) ρ = .ok r ∧ r.froz = some ((fun d => match d with | .int k => (lf (c * (k * k + 1) % 2147483647)).d | _ => .non) d) := fun d hd => by
    obtain ⟨i, h1, rfl⟩ := rngD_mem hd
    exact ⟨_, _, rfl, by simp only [dn_get1, dn_dct0, dn_din, ds_dput, dk_s, dk_i, dk_t0, dk_t1, dk_t2, dk_t3, sDput_k, dputA_d, dputC_k, eDin_k, din_v, din_o, din_b, ain_s, anin_s, dinC_t, dinC_f, ix_dv, ix_do, ix_db, ixC_k, getO_some, getO_none, getC_k, eGet1_k, eGet2_k, get1_v, get1_o, get1_b, get2_v, get2_o, get2_b, runD, runO, st0, run_rn, runO_rn, fin_nx, fin_rt, fin_ex, denB_nil, denB_cons, dens, dn_var, dn_cst, dn_glo, dn_tup, dn_lst, dn_and, dn_or, dn_not, dn_neg, dn_bin, dn_cmp, dn_chn, dn_ite, dn_ix, dn_sl, dn_blt, dn_isi, dn_join, dn_get2, dn_call, dn_rng, dn_lc, ds_pass, ds_brk, ds_cnt, ds_drop, ds_ret, ds_retN, ds_retV, ds_set, ds_unp, ds_ite, ds_fore, ds_whl, ds_app, ds_ext, ds_clr, ds_frz, ds_lend, ds_callO, ds_raise, ds_tryM, denL, List.zip_cons_cons, List.zip_nil_left, List.zip_nil_right, sTry_k, tK_nx, tK_rt, tK_bk, tK_ct, tK_ex, catch_nil, catch_cons, caK_t, caK_f, noX_nx, noX_rt, noX_bk, noX_ct, oSeq_k, oK_nx, oK_rt, oK_bk, oK_ct, oK_ex, oK_st, oB_ok, oB_exc, Res.bind_ok, Res.bind_exc, Res.bind_stuck, sSet, sIf_k, oIf_t, oIf_f, sRet, sRetV, sRetN, sDrop, sFrz, sApp_k, appK_v, appK_o, sExt_k, extK_v, extK_o, sClr, onL, sLend, sCallO, onO, oBs_k, callO_k, cK_s, bK_nx, bK_rt, backO, argO, Option.map_some, sUnp_k, unpK_v, setAll, vals, sFor_k, forK_ok, whK_t, whK_f, whN_nx, whN_ct, whN_bk, whN_rt, whN_ex, eVar, eArgs_nil, eArgs_cons, eTup_k, eLst_k, tupK_s, lstK_s, frozs_nil, frozs_cons, froK_s, froz_v, froz_o, eAnd_k, eOr_k, eNot_k, eIte_k, andK_t, andK_f, orK_t, orK_f, iteK_t, iteK_f, notK_b, eNeg, neg_i, eBin, bin_add, bin_sub, bin_mul, bin_div, bin_mod, bin_pow, add_i, add_s, add_oo, add_ov, add_vo, add_vv, sub_i, mul_r, mul_l, mul_s, mul_o, div_p, mod_p, pow_p, eCmp, c_eq, c_ne, c_lt, c_le, c_gt, c_ge, c_is, c_in, c_nin, eq_ii, eq_ss, eq_bb, ne_ii, ne_ss, ne_bb, lt_ii, le_ii, gt_ii, ge_ii, in_ss, nin_ss, eIx, optR_some, ix_lv, ix_lo, ix_lb, ix_tv, ix_tb, ix_s, eSl_k, sl_s, sl_lv, sl_lo, sl_lb, sl_tv, part_none, part_some, pK_i, eBlt_k, len_s, len_lv, len_lo, len_lb, len_tv, len_tb, str_p, int_i, int_b, list_lv, list_lo, list_lb, list_tv, tuple_lv, tuple_lo, tuple_lb, tuple_tv, all_o, any_o, sum_o, min_i, max_i, eIsi_k, isi_bb, isi_ii, isi_bi, isi_ss, isi_st, isi_tt, isi_ts, isi_it, isi_ti, isi_si, isi_ll, isi_lb, isi_lo, eCall_k, arg_v, arg_o, arg_b, eJoin_k, joinX_s, join_o, joinK_s, eGlo, setR_f, setR_fo, setR_t, eSeqX_k, eSeq_k, it_lv, it_lo, it_tv, it_s, id_lv, id_lo, id_lb, id_tv, id_tb, id_s, eRngV_k, rng_1, rng_2, eLc_k, lcK_ok, ofD, Bt.fn, Ty.T, List.map_cons, List.map_nil, List.head?_cons, List.head?_nil, List.length_cons, List.length_nil, List.cons_append, List.nil_append, List.replicate_succ, List.replicate_zero, List.getElem?_cons_zero, List.getElem?_cons_succ, List.set_cons_zero, List.set_cons_succ, Nat.reduceSub, Nat.reduceAdd, Nat.zero_add, if_true, Bool.false_eq_true, if_false, Bool.and_true, Bool.true_and, Nat.zero_le, decide_true, Bool.or_true, Bool.true_or, decide_false, Int.reduceLT, Int.reduceLE, Int.reduceMul, Int.reduceAdd, Int.reduceSub, Int.reduceNeg, Int.reduceToNat, Int.reduceMod, Int.reduceDiv, Nat.reduceLeDiff, Nat.reduceLT, Bool.not_true, Bool.not_false, Bool.and_self, beq_self_eq_true, Int.reducePow, Nat.reducePow, Int.reduceBEq, wipeE, Tg.slots, (hleaf _).2, show (-18446744073709551616 : Int) < 0 + (i : Nat) by omega, show 0 + ((i : Nat) : Int) < 18446744073709551616 by omega, show (-18446744073709551616 : Int) < c by omega, show c < 18446744073709551616 by omega]; rfl, rfl⟩
  have r1 : decide (1 + c / 5 % 8 ≤ 1000000) = true := decide_eq_true (by omega)
  have r2 : decide (-1000000 ≤ 1 + c / 5 % 8) = true := decide_eq_true (by omega)
  simp only [dn_get1, dn_dct0, dn_din, ds_dput, dk_s, dk_i, dk_t0, dk_t1, dk_t2, dk_t3, sDput_k, dputA_d, dputC_k, eDin_k, din_v, din_o, din_b, ain_s, anin_s, dinC_t, dinC_f, ix_dv, ix_do, ix_db, ixC_k, getO_some, getO_none, getC_k, eGet1_k, eGet2_k, get1_v, get1_o, get1_b, get2_v, get2_o, get2_b, runD, runO, st0, run_rn, runO_rn, fin_nx, fin_rt, fin_ex, denB_nil, denB_cons, dens, dn_var, dn_cst, dn_glo, dn_tup, dn_lst, dn_and, dn_or, dn_not, dn_neg, dn_bin, dn_cmp, dn_chn, dn_ite, dn_ix, dn_sl, dn_blt, dn_isi, dn_join, dn_get2, dn_call, dn_rng, dn_lc, ds_pass, ds_brk, ds_cnt, ds_drop, ds_ret, ds_retN, ds_retV, ds_set, ds_unp, ds_ite, ds_fore, ds_whl, ds_app, ds_ext, ds_clr, ds_frz, ds_lend, ds_callO, ds_raise, ds_tryM, denL, List.zip_cons_cons, List.zip_nil_left, List.zip_nil_right, sTry_k, tK_nx, tK_rt, tK_bk, tK_ct, tK_ex, catch_nil, catch_cons, caK_t, caK_f, noX_nx, noX_rt, noX_bk, noX_ct, oSeq_k, oK_nx, oK_rt, oK_bk, oK_ct, oK_ex, oK_st, oB_ok, oB_exc, Res.bind_ok, Res.bind_exc, Res.bind_stuck, sSet, sIf_k, oIf_t, oIf_f, sRet, sRetV, sRetN, sDrop, sFrz, sApp_k, appK_v, appK_o, sExt_k, extK_v, extK_o, sClr, onL, sLend, sCallO, onO, oBs_k, callO_k, cK_s, bK_nx, bK_rt, backO, argO, Option.map_some, sUnp_k, unpK_v, setAll, vals, sFor_k, forK_ok, whK_t, whK_f, whN_nx, whN_ct, whN_bk, whN_rt, whN_ex, eVar, eArgs_nil, eArgs_cons, eTup_k, eLst_k, tupK_s, lstK_s, frozs_nil, frozs_cons, froK_s, froz_v, froz_o, eAnd_k, eOr_k, eNot_k, eIte_k, andK_t, andK_f, orK_t, orK_f, iteK_t, iteK_f, notK_b, eNeg, neg_i, eBin, bin_add, bin_sub, bin_mul, bin_div, bin_mod, bin_pow, add_i, add_s, add_oo, add_ov, add_vo, add_vv, sub_i, mul_r, mul_l, mul_s, mul_o, div_p, mod_p, pow_p, eCmp, c_eq, c_ne, c_lt, c_le, c_gt, c_ge, c_is, c_in, c_nin, eq_ii, eq_ss, eq_bb, ne_ii, ne_ss, ne_bb, lt_ii, le_ii, gt_ii, ge_ii, in_ss, nin_ss, eIx, optR_some, ix_lv, ix_lo, ix_lb, ix_tv, ix_tb, ix_s, eSl_k, sl_s, sl_lv, sl_lo, sl_lb, sl_tv, part_none, part_some, pK_i, eBlt_k, len_s, len_lv, len_lo, len_lb, len_tv, len_tb, str_p, int_i, int_b, list_lv, list_lo, list_lb, list_tv, tuple_lv, tuple_lo, tuple_lb, tuple_tv, all_o, any_o, sum_o, min_i, max_i, eIsi_k, isi_bb, isi_ii, isi_bi, isi_ss, isi_st, isi_tt, isi_ts, isi_it, isi_ti, isi_si, isi_ll, isi_lb, isi_lo, eCall_k, arg_v, arg_o, arg_b, eJoin_k, joinX_s, join_o, joinK_s, eGlo, setR_f, setR_fo, setR_t, eSeqX_k, eSeq_k, it_lv, it_lo, it_tv, it_s, id_lv, id_lo, id_lb, id_tv, id_tb, id_s, eRngV_k, rng_1, rng_2, eLc_k, lcK_ok, ofD, Bt.fn, Ty.T, List.map_cons, List.map_nil, List.head?_cons, List.head?_nil, List.length_cons, List.length_nil, List.cons_append, List.nil_append, List.replicate_succ, List.replicate_zero, List.getElem?_cons_zero, List.getElem?_cons_succ, List.set_cons_zero, List.set_cons_succ, Nat.reduceSub, Nat.reduceAdd, Nat.zero_add, if_true, Bool.false_eq_true, if_false, Bool.and_true, Bool.true_and, Nat.zero_le, decide_true, Bool.or_true, Bool.true_or, decide_false, Int.reduceLT, Int.reduceLE, Int.reduceMul, Int.reduceAdd, Int.reduceSub, Int.reduceNeg, Int.reduceToNat, Int.reduceMod, Int.reduceDiv, Nat.reduceLeDiff, Nat.reduceLT, Bool.not_true, Bool.not_false, Bool.and_self, beq_self_eq_true, Int.reducePow, Nat.reducePow, Int.reduceBEq, e1, e2, r1, r2, hcc]
  rw [lcGo_map hk2 (by rw [rngD_len, List.length_nil]; exact lim_small (by omega))]
  have hls : (rngD 0 (1 + c / 5 % 8).toNat).map (fun d => match d with | .int k => (lf (c * (k * k + 1) % 2147483647)).d | _ => .non) = ((List.range (1 + c / 5 % 8).toNat).map fun (i : Nat) => lf (c * ((0 + (i : Nat)) * (0 + (i : Nat)) + 1) % 2147483647)).map Tr.d := by rw [rngD, List.map_map, List.map_map]; rfl
  rw [hls]
  have hlf : ∀ t ∈ (List.range (1 + c / 5 % 8).toNat).map fun (i : Nat) => lf (c * ((0 + (i : Nat)) * (0 + (i : Nat)) + 1) % 2147483647), t.leaf rows := fun t ht => by
    obtain ⟨i, _, rfl⟩ := List.mem_map.mp ht
    exact (hleaf _).1
  have hll : ((List.range (1 + c / 5 % 8).toNat).map fun (i : Nat) => lf (c * ((0 + (i : Nat)) * (0 + (i : Nat)) + 1) % 2147483647)).length = (1 + c / 5 % 8).toNat := by simp
  generalize ((List.range (1 + c / 5 % 8).toNat).map fun (i : Nat) => lf (c * ((0 + (i : Nat)) * (0 + (i : Nat)) + 1) % 2147483647)) = l at hlf hll
  obtain ⟨f1, f2, f3⟩ := leaves_l hlf
  obtain ⟨t, t1, t2, t3, t4, t5⟩ := tree_eq2 37 rows l (c2 % 2147483647) (by omega) (by omega) (fun t h => (hlf t h).2.1) (by omega)
  have t5 : rn T M 39 7 [.val (.int (c2 % 2147483647)), .val (.lst (l.map Tr.d))] = .ok (.val t.d) := t5
  rw [f1] at t1
  rw [f2] at t2
  have dp := t.dp_le
  have q1 := tied_eq t 39 rows (by omega)
  have lt5 : (5 : Nat) ≤ LIM := by decide
  simp only [dn_get1, dn_dct0, dn_din, ds_dput, dk_s, dk_i, dk_t0, dk_t1, dk_t2, dk_t3, sDput_k, dputA_d, dputC_k, eDin_k, din_v, din_o, din_b, ain_s, anin_s, dinC_t, dinC_f, ix_dv, ix_do, ix_db, ixC_k, getO_some, getO_none, getC_k, eGet1_k, eGet2_k, get1_v, get1_o, get1_b, get2_v, get2_o, get2_b, runD, runO, st0, run_rn, runO_rn, fin_nx, fin_rt, fin_ex, denB_nil, denB_cons, dens, dn_var, dn_cst, dn_glo, dn_tup, dn_lst, dn_and, dn_or, dn_not, dn_neg, dn_bin, dn_cmp, dn_chn, dn_ite, dn_ix, dn_sl, dn_blt, dn_isi, dn_join, dn_get2, dn_call, dn_rng, dn_lc, ds_pass, ds_brk, ds_cnt, ds_drop, ds_ret, ds_retN, ds_retV, ds_set, ds_unp, ds_ite, ds_fore, ds_whl, ds_app, ds_ext, ds_clr, ds_frz, ds_lend, ds_callO, ds_raise, ds_tryM, denL, List.zip_cons_cons, List.zip_nil_left, List.zip_nil_right, sTry_k, tK_nx, tK_rt, tK_bk, tK_ct, tK_ex, catch_nil, catch_cons, caK_t, caK_f, noX_nx, noX_rt, noX_bk, noX_ct, oSeq_k, oK_nx, oK_rt, oK_bk, oK_ct, oK_ex, oK_st, oB_ok, oB_exc, Res.bind_ok, Res.bind_exc, Res.bind_stuck, sSet, sIf_k, oIf_t, oIf_f, sRet, sRetV, sRetN, sDrop, sFrz, sApp_k, appK_v, appK_o, sExt_k, extK_v, extK_o, sClr, onL, sLend, sCallO, onO, oBs_k, callO_k, cK_s, bK_nx, bK_rt, backO, argO, Option.map_some, sUnp_k, unpK_v, setAll, vals, sFor_k, forK_ok, whK_t, whK_f, whN_nx, whN_ct, whN_bk, whN_rt, whN_ex, eVar, eArgs_nil, eArgs_cons, eTup_k, eLst_k, tupK_s, lstK_s, frozs_nil, frozs_cons, froK_s, froz_v, froz_o, eAnd_k, eOr_k, eNot_k, eIte_k, andK_t, andK_f, orK_t, orK_f, iteK_t, iteK_f, notK_b, eNeg, neg_i, eBin, bin_add, bin_sub, bin_mul, bin_div, bin_mod, bin_pow, add_i, add_s, add_oo, add_ov, add_vo, add_vv, sub_i, mul_r, mul_l, mul_s, mul_o, div_p, mod_p, pow_p, eCmp, c_eq, c_ne, c_lt, c_le, c_gt, c_ge, c_is, c_in, c_nin, eq_ii, eq_ss, eq_bb, ne_ii, ne_ss, ne_bb, lt_ii, le_ii, gt_ii, ge_ii, in_ss, nin_ss, eIx, optR_some, ix_lv, ix_lo, ix_lb, ix_tv, ix_tb, ix_s, eSl_k, sl_s, sl_lv, sl_lo, sl_lb, sl_tv, part_none, part_some, pK_i, eBlt_k, len_s, len_lv, len_lo, len_lb, len_tv, len_tb, str_p, int_i, int_b, list_lv, list_lo, list_lb, list_tv, tuple_lv, tuple_lo, tuple_lb, tuple_tv, all_o, any_o, sum_o, min_i, max_i, eIsi_k, isi_bb, isi_ii, isi_bi, isi_ss, isi_st, isi_tt, isi_ts, isi_it, isi_ti, isi_si, isi_ll, isi_lb, isi_lo, eCall_k, arg_v, arg_o, arg_b, eJoin_k, joinX_s, join_o, joinK_s, eGlo, setR_f, setR_fo, setR_t, eSeqX_k, eSeq_k, it_lv, it_lo, it_tv, it_s, id_lv, id_lo, id_lb, id_tv, id_tb, id_s, eRngV_k, rng_1, rng_2, eLc_k, lcK_ok, ofD, Bt.fn, Ty.T, List.map_cons, List.map_nil, List.head?_cons, List.head?_nil, List.length_cons, List.length_nil, List.cons_append, List.nil_append, List.replicate_succ, List.replicate_zero, List.getElem?_cons_zero, List.getElem?_cons_succ, List.set_cons_zero, List.set_cons_succ, Nat.reduceSub, Nat.reduceAdd, Nat.zero_add, if_true, Bool.false_eq_true, if_false, Bool.and_true, Bool.true_and, Nat.zero_le, decide_true, Bool.or_true, Bool.true_or, decide_false, Int.reduceLT, Int.reduceLE, Int.reduceMul, Int.reduceAdd, Int.reduceSub, Int.reduceNeg, Int.reduceToNat, Int.reduceMod, Int.reduceDiv, Nat.reduceLeDiff, Nat.reduceLT, Bool.not_true, Bool.not_false, Bool.and_self, beq_self_eq_true, Int.reducePow, Nat.reducePow, Int.reduceBEq, e1, e2, t5, Tr.d, q1]
  have hh := fun a b => held_eq 38 a b
  have q2 := tied_eq t 39 (rows ++ t.lack) (by omega)
  have q3 := tied_eq t 39 [] (by omega)
  rw [Tr.tied_all (p := rows ++ t.lack) (fun r h => List.mem_append_left _ h) t3 (fun r h => List.mem_append_right _ h), List.map_append] at q2
  rw [Tr.tied_nil, List.map_nil] at q3
  have lz : rows.length + t.lack.length ≤ LIM := lim_small (by omega)
  have hh : ∀ a b, rn T M 39 8 [.val (.bl a), .val (.bl b)] = .ok (.val (.bl (a == b))) := hh
  rw [Tr.tied_rows t3]
  have hA : ∀ x : Bool, (Res.ok (R.val (D.bl (x == x)))) = .ok (.val (.bl true)) := fun x => by cases x <;> rfl
  have hk3 : ∀ y b11, ∀ d ∈ l.map Tr.d, ∃ ρ, bindD (.one 13) d (wipeE [some (.bor (.lst (ns.map D.int))), some (.val (.lst [.str w0, .str w1, .str w2])), some (.val (.lst (rows.map Rw.d))), some (.val (.int c)), some (.val (.lst (l.map Tr.d))), some y, none, some (.val t.kind), some (.val t.one), some (.val t.oth), some (.val (.lst (t.lack.map Rw.d))), some (.val (.bl b11)), none, none] (Tg.one 13).slots) = some ρ ∧
      den ⟨rnO T M 39, M.glo, M.sub⟩ (.cmp .Eq (.ix (.ix (.var 13) (.cst (.int 0))) (.cst (.int 0))) (.cst (.str "name"))) ρ = .ok (.val (.bl (isNm d))) ∧ (isNm d = true → ∃ r, den ⟨rnO T M 39, M.glo, M.sub⟩ (.var 13) ρ = .ok r ∧ r.froz = some (id d)) := fun y b11 d hd => by
    obtain ⟨x, hx, rfl⟩ := List.mem_map.mp hd
    have hxl := hlf x hx
    rw [isNm_leaf hxl]
    refine ⟨_, rfl, ?_, fun _ => ⟨_, rfl, rfl⟩⟩
    cases x with
    | num m a b => simp only [dn_get1, dn_dct0, dn_din, ds_dput, dk_s, dk_i, dk_t0, dk_t1, dk_t2, dk_t3, sDput_k, dputA_d, dputC_k, eDin_k, din_v, din_o, din_b, ain_s, anin_s, dinC_t, dinC_f, ix_dv, ix_do, ix_db, ixC_k, getO_some, getO_none, getC_k, eGet1_k, eGet2_k, get1_v, get1_o, get1_b, get2_v, get2_o, get2_b, runD, runO, st0, run_rn, runO_rn, fin_nx, fin_rt, fin_ex, denB_nil, denB_cons, dens, dn_var, dn_cst, dn_glo, dn_tup, dn_lst, dn_and, dn_or, dn_not, dn_neg, dn_bin, dn_cmp, dn_chn, dn_ite, dn_ix, dn_sl, dn_blt, dn_isi, dn_join, dn_get2, dn_call, dn_rng, dn_lc, ds_pass, ds_brk, ds_cnt, ds_drop, ds_ret, ds_retN, ds_retV, ds_set, ds_unp, ds_ite, ds_fore, ds_whl, ds_app, ds_ext, ds_clr, ds_frz, ds_lend, ds_callO, ds_raise, ds_tryM, denL, List.zip_cons_cons, List.zip_nil_left, List.zip_nil_right, sTry_k, tK_nx, tK_rt, tK_bk, tK_ct, tK_ex, catch_nil, catch_cons, caK_t, caK_f, noX_nx, noX_rt, noX_bk, noX_ct, oSeq_k, oK_nx, oK_rt, oK_bk, oK_ct, oK_ex, oK_st, oB_ok, oB_exc, Res.bind_ok, Res.bind_exc, Res.bind_stuck, sSet, sIf_k, oIf_t, oIf_f, sRet, sRetV, sRetN, sDrop, sFrz, sApp_k, appK_v, appK_o, sExt_k, extK_v, extK_o, sClr, onL, sLend, sCallO, onO, oBs_k, callO_k, cK_s, bK_nx, bK_rt, backO, argO, Option.map_some, sUnp_k, unpK_v, setAll, vals, sFor_k, forK_ok, whK_t, whK_f, whN_nx, whN_ct, whN_bk, whN_rt, whN_ex, eVar, eArgs_nil, eArgs_cons, eTup_k, eLst_k, tupK_s, lstK_s, frozs_nil, frozs_cons, froK_s, froz_v, froz_o, eAnd_k, eOr_k, eNot_k, eIte_k, andK_t, andK_f, orK_t, orK_f, iteK_t, iteK_f, notK_b, eNeg, neg_i, eBin, bin_add, bin_sub, bin_mul, bin_div, bin_mod, bin_pow, add_i, add_s, add_oo, add_ov, add_vo, add_vv, sub_i, mul_r, mul_l, mul_s, mul_o, div_p, mod_p, pow_p, eCmp, c_eq, c_ne, c_lt, c_le, c_gt, c_ge, c_is, c_in, c_nin, eq_ii, eq_ss, eq_bb, ne_ii, ne_ss, ne_bb, lt_ii, le_ii, gt_ii, ge_ii, in_ss, nin_ss, eIx, optR_some, ix_lv, ix_lo, ix_lb, ix_tv, ix_tb, ix_s, eSl_k, sl_s, sl_lv, sl_lo, sl_lb, sl_tv, part_none, part_some, pK_i, eBlt_k, len_s, len_lv, len_lo, len_lb, len_tv, len_tb, str_p, int_i, int_b, list_lv, list_lo, list_lb, list_tv, tuple_lv, tuple_lo, tuple_lb, tuple_tv, all_o, any_o, sum_o, min_i, max_i, eIsi_k, isi_bb, isi_ii, isi_bi, isi_ss, isi_st, isi_tt, isi_ts, isi_it, isi_ti, isi_si, isi_ll, isi_lb, isi_lo, eCall_k, arg_v, arg_o, arg_b, eJoin_k, joinX_s, join_o, joinK_s, eGlo, setR_f, setR_fo, setR_t, eSeqX_k, eSeq_k, it_lv, it_lo, it_tv, it_s, id_lv, id_lo, id_lb, id_tv, id_tb, id_s, eRngV_k, rng_1, rng_2, eLc_k, lcK_ok, ofD, Bt.fn, Ty.T, List.map_cons, List.map_nil, List.head?_cons, List.head?_nil, List.length_cons, List.length_nil, List.cons_append, List.nil_append, List.replicate_succ, List.replicate_zero, List.getElem?_cons_zero, List.getElem?_cons_succ, List.set_cons_zero, List.set_cons_succ, Nat.reduceSub, Nat.reduceAdd, Nat.zero_add, if_true, Bool.false_eq_true, if_false, Bool.and_true, Bool.true_and, Nat.zero_le, decide_true, Bool.or_true, Bool.true_or, decide_false, Int.reduceLT, Int.reduceLE, Int.reduceMul, Int.reduceAdd, Int.reduceSub, Int.reduceNeg, Int.reduceToNat, Int.reduceMod, Int.reduceDiv, Nat.reduceLeDiff, Nat.reduceLT, Bool.not_true, Bool.not_false, Bool.and_self, beq_self_eq_true, Int.reducePow, Nat.reducePow, Int.reduceBEq, wipeE, Tg.slots, Tr.d, Tr.kind, atI0, w_nn]; rfl
    | row r k => simp only [dn_get1, dn_dct0, dn_din, ds_dput, dk_s, dk_i, dk_t0, dk_t1, dk_t2, dk_t3, sDput_k, dputA_d, dputC_k, eDin_k, din_v, din_o, din_b, ain_s, anin_s, dinC_t, dinC_f, ix_dv, ix_do, ix_db, ixC_k, getO_some, getO_none, getC_k, eGet1_k, eGet2_k, get1_v, get1_o, get1_b, get2_v, get2_o, get2_b, runD, runO, st0, run_rn, runO_rn, fin_nx, fin_rt, fin_ex, denB_nil, denB_cons, dens, dn_var, dn_cst, dn_glo, dn_tup, dn_lst, dn_and, dn_or, dn_not, dn_neg, dn_bin, dn_cmp, dn_chn, dn_ite, dn_ix, dn_sl, dn_blt, dn_isi, dn_join, dn_get2, dn_call, dn_rng, dn_lc, ds_pass, ds_brk, ds_cnt, ds_drop, ds_ret, ds_retN, ds_retV, ds_set, ds_unp, ds_ite, ds_fore, ds_whl, ds_app, ds_ext, ds_clr, ds_frz, ds_lend, ds_callO, ds_raise, ds_tryM, denL, List.zip_cons_cons, List.zip_nil_left, List.zip_nil_right, sTry_k, tK_nx, tK_rt, tK_bk, tK_ct, tK_ex, catch_nil, catch_cons, caK_t, caK_f, noX_nx, noX_rt, noX_bk, noX_ct, oSeq_k, oK_nx, oK_rt, oK_bk, oK_ct, oK_ex, oK_st, oB_ok, oB_exc, Res.bind_ok, Res.bind_exc, Res.bind_stuck, sSet, sIf_k, oIf_t, oIf_f, sRet, sRetV, sRetN, sDrop, sFrz, sApp_k, appK_v, appK_o, sExt_k, extK_v, extK_o, sClr, onL, sLend, sCallO, onO, oBs_k, callO_k, cK_s, bK_nx, bK_rt, backO, argO, Option.map_some, sUnp_k, unpK_v, setAll, vals, sFor_k, forK_ok, whK_t, whK_f, whN_nx, whN_ct, whN_bk, whN_rt, whN_ex, eVar, eArgs_nil, eArgs_cons, eTup_k, eLst_k, tupK_s, lstK_s, frozs_nil, frozs_cons, froK_s, froz_v, froz_o, eAnd_k, eOr_k, eNot_k, eIte_k, andK_t, andK_f, orK_t, orK_f, iteK_t, iteK_f, notK_b, eNeg, neg_i, eBin, bin_add, bin_sub, bin_mul, bin_div, bin_mod, bin_pow, add_i, add_s, add_oo, add_ov, add_vo, add_vv, sub_i, mul_r, mul_l, mul_s, mul_o, div_p, mod_p, pow_p, eCmp, c_eq, c_ne, c_lt, c_le, c_gt, c_ge, c_is, c_in, c_nin, eq_ii, eq_ss, eq_bb, ne_ii, ne_ss, ne_bb, lt_ii, le_ii, gt_ii, ge_ii, in_ss, nin_ss, eIx, optR_some, ix_lv, ix_lo, ix_lb, ix_tv, ix_tb, ix_s, eSl_k, sl_s, sl_lv, sl_lo, sl_lb, sl_tv, part_none, part_some, pK_i, eBlt_k, len_s, len_lv, len_lo, len_lb, len_tv, len_tb, str_p, int_i, int_b, list_lv, list_lo, list_lb, list_tv, tuple_lv, tuple_lo, tuple_lb, tuple_tv, all_o, any_o, sum_o, min_i, max_i, eIsi_k, isi_bb, isi_ii, isi_bi, isi_ss, isi_st, isi_tt, isi_ts, isi_it, isi_ti, isi_si, isi_ll, isi_lb, isi_lo, eCall_k, arg_v, arg_o, arg_b, eJoin_k, joinX_s, join_o, joinK_s, eGlo, setR_f, setR_fo, setR_t, eSeqX_k, eSeq_k, it_lv, it_lo, it_tv, it_s, id_lv, id_lo, id_lb, id_tv, id_tb, id_s, eRngV_k, rng_1, rng_2, eLc_k, lcK_ok, ofD, Bt.fn, Ty.T, List.map_cons, List.map_nil, List.head?_cons, List.head?_nil, List.length_cons, List.length_nil, List.cons_append, List.nil_append, List.replicate_succ, List.replicate_zero, List.getElem?_cons_zero, List.getElem?_cons_succ, List.set_cons_zero, List.set_cons_succ, Nat.reduceSub, Nat.reduceAdd, Nat.zero_add, if_true, Bool.false_eq_true, if_false, Bool.and_true, Bool.true_and, Nat.zero_le, decide_true, Bool.or_true, Bool.true_or, decide_false, Int.reduceLT, Int.reduceLE, Int.reduceMul, Int.reduceAdd, Int.reduceSub, Int.reduceNeg, Int.reduceToNat, Int.reduceMod, Int.reduceDiv, Nat.reduceLeDiff, Nat.reduceLT, Bool.not_true, Bool.not_false, Bool.and_self, beq_self_eq_true, Int.reducePow, Nat.reducePow, Int.reduceBEq, wipeE, Tg.slots, Tr.d, Tr.kind, atI0]; rfl
    | pr x y => have := hxl.2.2.1; have a := x.dp_le; have b := y.dp_le; simp only [Tr.lv] at this; omega
  cases he : t.eq
  all_goals rw [he] at q2 q3
  all_goals simp only [dn_get1, dn_dct0, dn_din, ds_dput, dk_s, dk_i, dk_t0, dk_t1, dk_t2, dk_t3, sDput_k, dputA_d, dputC_k, eDin_k, din_v, din_o, din_b, ain_s, anin_s, dinC_t, dinC_f, ix_dv, ix_do, ix_db, ixC_k, getO_some, getO_none, getC_k, eGet1_k, eGet2_k, get1_v, get1_o, get1_b, get2_v, get2_o, get2_b, runD, runO, st0, run_rn, runO_rn, fin_nx, fin_rt, fin_ex, denB_nil, denB_cons, dens, dn_var, dn_cst, dn_glo, dn_tup, dn_lst, dn_and, dn_or, dn_not, dn_neg, dn_bin, dn_cmp, dn_chn, dn_ite, dn_ix, dn_sl, dn_blt, dn_isi, dn_join, dn_get2, dn_call, dn_rng, dn_lc, ds_pass, ds_brk, ds_cnt, ds_drop, ds_ret, ds_retN, ds_retV, ds_set, ds_unp, ds_ite, ds_fore, ds_whl, ds_app, ds_ext, ds_clr, ds_frz, ds_lend, ds_callO, ds_raise, ds_tryM, denL, List.zip_cons_cons, List.zip_nil_left, List.zip_nil_right, sTry_k, tK_nx, tK_rt, tK_bk, tK_ct, tK_ex, catch_nil, catch_cons, caK_t, caK_f, noX_nx, noX_rt, noX_bk, noX_ct, oSeq_k, oK_nx, oK_rt, oK_bk, oK_ct, oK_ex, oK_st, oB_ok, oB_exc, Res.bind_ok, Res.bind_exc, Res.bind_stuck, sSet, sIf_k, oIf_t, oIf_f, sRet, sRetV, sRetN, sDrop, sFrz, sApp_k, appK_v, appK_o, sExt_k, extK_v, extK_o, sClr, onL, sLend, sCallO, onO, oBs_k, callO_k, cK_s, bK_nx, bK_rt, backO, argO, Option.map_some, sUnp_k, unpK_v, setAll, vals, sFor_k, forK_ok, whK_t, whK_f, whN_nx, whN_ct, whN_bk, whN_rt, whN_ex, eVar, eArgs_nil, eArgs_cons, eTup_k, eLst_k, tupK_s, lstK_s, frozs_nil, frozs_cons, froK_s, froz_v, froz_o, eAnd_k, eOr_k, eNot_k, eIte_k, andK_t, andK_f, orK_t, orK_f, iteK_t, iteK_f, notK_b, eNeg, neg_i, eBin, bin_add, bin_sub, bin_mul, bin_div, bin_mod, bin_pow, add_i, add_s, add_oo, add_ov, add_vo, add_vv, sub_i, mul_r, mul_l, mul_s, mul_o, div_p, mod_p, pow_p, eCmp, c_eq, c_ne, c_lt, c_le, c_gt, c_ge, c_is, c_in, c_nin, eq_ii, eq_ss, eq_bb, ne_ii, ne_ss, ne_bb, lt_ii, le_ii, gt_ii, ge_ii, in_ss, nin_ss, eIx, optR_some, ix_lv, ix_lo, ix_lb, ix_tv, ix_tb, ix_s, eSl_k, sl_s, sl_lv, sl_lo, sl_lb, sl_tv, part_none, part_some, pK_i, eBlt_k, len_s, len_lv, len_lo, len_lb, len_tv, len_tb, str_p, int_i, int_b, list_lv, list_lo, list_lb, list_tv, tuple_lv, tuple_lo, tuple_lb, tuple_tv, all_o, any_o, sum_o, min_i, max_i, eIsi_k, isi_bb, isi_ii, isi_bi, isi_ss, isi_st, isi_tt, isi_ts, isi_it, isi_ti, isi_si, isi_ll, isi_lb, isi_lo, eCall_k, arg_v, arg_o, arg_b, eJoin_k, joinX_s, join_o, joinK_s, eGlo, setR_f, setR_fo, setR_t, eSeqX_k, eSeq_k, it_lv, it_lo, it_tv, it_s, id_lv, id_lo, id_lb, id_tv, id_tb, id_s, eRngV_k, rng_1, rng_2, eLc_k, lcK_ok, ofD, Bt.fn, Ty.T, List.map_cons, List.map_nil, List.head?_cons, List.head?_nil, List.length_cons, List.length_nil, List.cons_append, List.nil_append, List.replicate_succ, List.replicate_zero, List.getElem?_cons_zero, List.getElem?_cons_succ, List.set_cons_zero, List.set_cons_succ, Nat.reduceSub, Nat.reduceAdd, Nat.zero_add, if_true, Bool.false_eq_true, if_false, Bool.and_true, Bool.true_and, Nat.zero_le, decide_true, Bool.or_true, Bool.true_or, decide_false, Int.reduceLT, Int.reduceLE, Int.reduceMul, Int.reduceAdd, Int.reduceSub, Int.reduceNeg, Int.reduceToNat, Int.reduceMod, Int.reduceDiv, Nat.reduceLeDiff, Nat.reduceLT, Bool.not_true, Bool.not_false, Bool.and_self, beq_self_eq_true, Int.reducePow, Nat.reducePow, Int.reduceBEq, cpEq_ve, hh, cpNe_ov, List.length_map, lz, q2, Bool.false_and]
  all_goals rw [lcGo_filter (hk3 _ _) (by rw [List.length_map, List.length_nil]; exact lim_small (by omega))]
  all_goals simp only [dn_get1, dn_dct0, dn_din, ds_dput, dk_s, dk_i, dk_t0, dk_t1, dk_t2, dk_t3, sDput_k, dputA_d, dputC_k, eDin_k, din_v, din_o, din_b, ain_s, anin_s, dinC_t, dinC_f, ix_dv, ix_do, ix_db, ixC_k, getO_some, getO_none, getC_k, eGet1_k, eGet2_k, get1_v, get1_o, get1_b, get2_v, get2_o, get2_b, runD, runO, st0, run_rn, runO_rn, fin_nx, fin_rt, fin_ex, denB_nil, denB_cons, dens, dn_var, dn_cst, dn_glo, dn_tup, dn_lst, dn_and, dn_or, dn_not, dn_neg, dn_bin, dn_cmp, dn_chn, dn_ite, dn_ix, dn_sl, dn_blt, dn_isi, dn_join, dn_get2, dn_call, dn_rng, dn_lc, ds_pass, ds_brk, ds_cnt, ds_drop, ds_ret, ds_retN, ds_retV, ds_set, ds_unp, ds_ite, ds_fore, ds_whl, ds_app, ds_ext, ds_clr, ds_frz, ds_lend, ds_callO, ds_raise, ds_tryM, denL, List.zip_cons_cons, List.zip_nil_left, List.zip_nil_right, sTry_k, tK_nx, tK_rt, tK_bk, tK_ct, tK_ex, catch_nil, catch_cons, caK_t, caK_f, noX_nx, noX_rt, noX_bk, noX_ct, oSeq_k, oK_nx, oK_rt, oK_bk, oK_ct, oK_ex, oK_st, oB_ok, oB_exc, Res.bind_ok, Res.bind_exc, Res.bind_stuck, sSet, sIf_k, oIf_t, oIf_f, sRet, sRetV, sRetN, sDrop, sFrz, sApp_k, appK_v, appK_o, sExt_k, extK_v, extK_o, sClr, onL, sLend, sCallO, onO, oBs_k, callO_k, cK_s, bK_nx, bK_rt, backO, argO, Option.map_some, sUnp_k, unpK_v, setAll, vals, sFor_k, forK_ok, whK_t, whK_f, whN_nx, whN_ct, whN_bk, whN_rt, whN_ex, eVar, eArgs_nil, eArgs_cons, eTup_k, eLst_k, tupK_s, lstK_s, frozs_nil, frozs_cons, froK_s, froz_v, froz_o, eAnd_k, eOr_k, eNot_k, eIte_k, andK_t, andK_f, orK_t, orK_f, iteK_t, iteK_f, notK_b, eNeg, neg_i, eBin, bin_add, bin_sub, bin_mul, bin_div, bin_mod, bin_pow, add_i, add_s, add_oo, add_ov, add_vo, add_vv, sub_i, mul_r, mul_l, mul_s, mul_o, div_p, mod_p, pow_p, eCmp, c_eq, c_ne, c_lt, c_le, c_gt, c_ge, c_is, c_in, c_nin, eq_ii, eq_ss, eq_bb, ne_ii, ne_ss, ne_bb, lt_ii, le_ii, gt_ii, ge_ii, in_ss, nin_ss, eIx, optR_some, ix_lv, ix_lo, ix_lb, ix_tv, ix_tb, ix_s, eSl_k, sl_s, sl_lv, sl_lo, sl_lb, sl_tv, part_none, part_some, pK_i, eBlt_k, len_s, len_lv, len_lo, len_lb, len_tv, len_tb, str_p, int_i, int_b, list_lv, list_lo, list_lb, list_tv, tuple_lv, tuple_lo, tuple_lb, tuple_tv, all_o, any_o, sum_o, min_i, max_i, eIsi_k, isi_bb, isi_ii, isi_bi, isi_ss, isi_st, isi_tt, isi_ts, isi_it, isi_ti, isi_si, isi_ll, isi_lb, isi_lo, eCall_k, arg_v, arg_o, arg_b, eJoin_k, joinX_s, join_o, joinK_s, eGlo, setR_f, setR_fo, setR_t, eSeqX_k, eSeq_k, it_lv, it_lo, it_tv, it_s, id_lv, id_lo, id_lb, id_tv, id_tb, id_s, eRngV_k, rng_1, rng_2, eLc_k, lcK_ok, ofD, Bt.fn, Ty.T, List.map_cons, List.map_nil, List.head?_cons, List.head?_nil, List.length_cons, List.length_nil, List.cons_append, List.nil_append, List.replicate_succ, List.replicate_zero, List.getElem?_cons_zero, List.getElem?_cons_succ, List.set_cons_zero, List.set_cons_succ, Nat.reduceSub, Nat.reduceAdd, Nat.zero_add, if_true, Bool.false_eq_true, if_false, Bool.and_true, Bool.true_and, Nat.zero_le, decide_true, Bool.or_true, Bool.true_or, decide_false, Int.reduceLT, Int.reduceLE, Int.reduceMul, Int.reduceAdd, Int.reduceSub, Int.reduceNeg, Int.reduceToNat, Int.reduceMod, Int.reduceDiv, Nat.reduceLeDiff, Nat.reduceLT, Bool.not_true, Bool.not_false, Bool.and_self, beq_self_eq_true, Int.reducePow, Nat.reducePow, Int.reduceBEq, hh, q3]
  · rfl
  · rw [filt hlf, cpEq_te, ← t1]
    simp only [dn_get1, dn_dct0, dn_din, ds_dput, dk_s, dk_i, dk_t0, dk_t1, dk_t2, dk_t3, sDput_k, dputA_d, dputC_k, eDin_k, din_v, din_o, din_b, ain_s, anin_s, dinC_t, dinC_f, ix_dv, ix_do, ix_db, ixC_k, getO_some, getO_none, getC_k, eGet1_k, eGet2_k, get1_v, get1_o, get1_b, get2_v, get2_o, get2_b, runD, runO, st0, run_rn, runO_rn, fin_nx, fin_rt, fin_ex, denB_nil, denB_cons, dens, dn_var, dn_cst, dn_glo, dn_tup, dn_lst, dn_and, dn_or, dn_not, dn_neg, dn_bin, dn_cmp, dn_chn, dn_ite, dn_ix, dn_sl, dn_blt, dn_isi, dn_join, dn_get2, dn_call, dn_rng, dn_lc, ds_pass, ds_brk, ds_cnt, ds_drop, ds_ret, ds_retN, ds_retV, ds_set, ds_unp, ds_ite, ds_fore, ds_whl, ds_app, ds_ext, ds_clr, ds_frz, ds_lend, ds_callO, ds_raise, ds_tryM, denL, List.zip_cons_cons, List.zip_nil_left, List.zip_nil_right, sTry_k, tK_nx, tK_rt, tK_bk, tK_ct, tK_ex, catch_nil, catch_cons, caK_t, caK_f, noX_nx, noX_rt, noX_bk, noX_ct, oSeq_k, oK_nx, oK_rt, oK_bk, oK_ct, oK_ex, oK_st, oB_ok, oB_exc, Res.bind_ok, Res.bind_exc, Res.bind_stuck, sSet, sIf_k, oIf_t, oIf_f, sRet, sRetV, sRetN, sDrop, sFrz, sApp_k, appK_v, appK_o, sExt_k, extK_v, extK_o, sClr, onL, sLend, sCallO, onO, oBs_k, callO_k, cK_s, bK_nx, bK_rt, backO, argO, Option.map_some, sUnp_k, unpK_v, setAll, vals, sFor_k, forK_ok, whK_t, whK_f, whN_nx, whN_ct, whN_bk, whN_rt, whN_ex, eVar, eArgs_nil, eArgs_cons, eTup_k, eLst_k, tupK_s, lstK_s, frozs_nil, frozs_cons, froK_s, froz_v, froz_o, eAnd_k, eOr_k, eNot_k, eIte_k, andK_t, andK_f, orK_t, orK_f, iteK_t, iteK_f, notK_b, eNeg, neg_i, eBin, bin_add, bin_sub, bin_mul, bin_div, bin_mod, bin_pow, add_i, add_s, add_oo, add_ov, add_vo, add_vv, sub_i, mul_r, mul_l, mul_s, mul_o, div_p, mod_p, pow_p, eCmp, c_eq, c_ne, c_lt, c_le, c_gt, c_ge, c_is, c_in, c_nin, eq_ii, eq_ss, eq_bb, ne_ii, ne_ss, ne_bb, lt_ii, le_ii, gt_ii, ge_ii, in_ss, nin_ss, eIx, optR_some, ix_lv, ix_lo, ix_lb, ix_tv, ix_tb, ix_s, eSl_k, sl_s, sl_lv, sl_lo, sl_lb, sl_tv, part_none, part_some, pK_i, eBlt_k, len_s, len_lv, len_lo, len_lb, len_tv, len_tb, str_p, int_i, int_b, list_lv, list_lo, list_lb, list_tv, tuple_lv, tuple_lo, tuple_lb, tuple_tv, all_o, any_o, sum_o, min_i, max_i, eIsi_k, isi_bb, isi_ii, isi_bi, isi_ss, isi_st, isi_tt, isi_ts, isi_it, isi_ti, isi_si, isi_ll, isi_lb, isi_lo, eCall_k, arg_v, arg_o, arg_b, eJoin_k, joinX_s, join_o, joinK_s, eGlo, setR_f, setR_fo, setR_t, eSeqX_k, eSeq_k, it_lv, it_lo, it_tv, it_s, id_lv, id_lo, id_lb, id_tv, id_tb, id_s, eRngV_k, rng_1, rng_2, eLc_k, lcK_ok, ofD, Bt.fn, Ty.T, List.map_cons, List.map_nil, List.head?_cons, List.head?_nil, List.length_cons, List.length_nil, List.cons_append, List.nil_append, List.replicate_succ, List.replicate_zero, List.getElem?_cons_zero, List.getElem?_cons_succ, List.set_cons_zero, List.set_cons_succ, Nat.reduceSub, Nat.reduceAdd, Nat.zero_add, if_true, Bool.false_eq_true, if_false, Bool.and_true, Bool.true_and, Nat.zero_le, decide_true, Bool.or_true, Bool.true_or, decide_false, Int.reduceLT, Int.reduceLE, Int.reduceMul, Int.reduceAdd, Int.reduceSub, Int.reduceNeg, Int.reduceToNat, Int.reduceMod, Int.reduceDiv, Nat.reduceLeDiff, Nat.reduceLT, Bool.not_true, Bool.not_false, Bool.and_self, beq_self_eq_true, Int.reducePow, Nat.reducePow, Int.reduceBEq, hh]

/-! ### the text at the top -/
theorem all_mk {l : PySem.W.OpenLaw} {w : World} {K : PySem.W.Frag} {h : Heap} {mg : Str → Option Value} {fa : Addr} (X : K.In h) (G : h.Ns mainGlobals mg) (hfa : mg "law" = some (.ref fa))
    {f0 : Addr} {od0 an0 : Option Addr} {sl0 : Array (Option Value)} {oc0 kV0 dc0 pm0 cd0 ct0 : Value} (a0 : PySem.W.nsIn K mainGlobals "tied" = some (some (.ref f0))) (l0 : K.lookup f0 = some ⟨oc0, od0, .func (PySem.W.fnOf "tied" "tied" (defArgs (top 1)) (defBody (top 1)) (defScope (top 1)) .none kV0 dc0 pm0 an0 cd0 ct0), sl0⟩) (c0 : PySem.W.codeIn K cd0 "tied" = true) (k0 : PySem.W.keepIn K (.ref f0) = true)
    {f1 : Addr} {od1 an1 : Option Addr} {sl1 : Array (Option Value)} {oc1 kV1 dc1 pm1 cd1 ct1 : Value} (a1 : PySem.W.nsIn K mainGlobals "_law_cell_at" = some (some (.ref f1))) (l1 : K.lookup f1 = some ⟨oc1, od1, .func (PySem.W.fnOf "_law_cell_at" "_law_cell_at" (defArgs (top 3)) (defBody (top 3)) (defScope (top 3)) .none kV1 dc1 pm1 an1 cd1 ct1), sl1⟩) (c1 : PySem.W.codeIn K cd1 "_law_cell_at" = true) (k1 : PySem.W.keepIn K (.ref f1) = true)
    {f2 : Addr} {od2 an2 : Option Addr} {sl2 : Array (Option Value)} {oc2 kV2 dc2 pm2 cd2 ct2 : Value} (a2 : PySem.W.nsIn K mainGlobals "_law_words" = some (some (.ref f2))) (l2 : K.lookup f2 = some ⟨oc2, od2, .func (PySem.W.fnOf "_law_words" "_law_words" (defArgs (top 4)) (defBody (top 4)) (defScope (top 4)) .none kV2 dc2 pm2 an2 cd2 ct2), sl2⟩) (c2 : PySem.W.codeIn K cd2 "_law_words" = true) (k2 : PySem.W.keepIn K (.ref f2) = true)
    {f3 : Addr} {od3 an3 : Option Addr} {sl3 : Array (Option Value)} {oc3 kV3 dc3 pm3 cd3 ct3 : Value} (a3 : PySem.W.nsIn K mainGlobals "_law_row" = some (some (.ref f3))) (l3 : K.lookup f3 = some ⟨oc3, od3, .func (PySem.W.fnOf "_law_row" "_law_row" (defArgs (top 5)) (defBody (top 5)) (defScope (top 5)) .none kV3 dc3 pm3 an3 cd3 ct3), sl3⟩) (c3 : PySem.W.codeIn K cd3 "_law_row" = true) (k3 : PySem.W.keepIn K (.ref f3) = true)
    {f4 : Addr} {od4 an4 : Option Addr} {sl4 : Array (Option Value)} {oc4 kV4 dc4 pm4 cd4 ct4 : Value} (a4 : PySem.W.nsIn K mainGlobals "_law_near" = some (some (.ref f4))) (l4 : K.lookup f4 = some ⟨oc4, od4, .func (PySem.W.fnOf "_law_near" "_law_near" (defArgs (top 6)) (defBody (top 6)) (defScope (top 6)) .none kV4 dc4 pm4 an4 cd4 ct4), sl4⟩) (c4 : PySem.W.codeIn K cd4 "_law_near" = true) (k4 : PySem.W.keepIn K (.ref f4) = true)
    {f5 : Addr} {od5 an5 : Option Addr} {sl5 : Array (Option Value)} {oc5 kV5 dc5 pm5 cd5 ct5 : Value} (a5 : PySem.W.nsIn K mainGlobals "_law_leaf" = some (some (.ref f5))) (l5 : K.lookup f5 = some ⟨oc5, od5, .func (PySem.W.fnOf "_law_leaf" "_law_leaf" (defArgs (top 7)) (defBody (top 7)) (defScope (top 7)) .none kV5 dc5 pm5 an5 cd5 ct5), sl5⟩) (c5 : PySem.W.codeIn K cd5 "_law_leaf" = true) (k5 : PySem.W.keepIn K (.ref f5) = true)
    {f6 : Addr} {od6 an6 : Option Addr} {sl6 : Array (Option Value)} {oc6 kV6 dc6 pm6 cd6 ct6 : Value} (a6 : PySem.W.nsIn K mainGlobals "_law_both" = some (some (.ref f6))) (l6 : K.lookup f6 = some ⟨oc6, od6, .func (PySem.W.fnOf "_law_both" "_law_both" (defArgs (top 8)) (defBody (top 8)) (defScope (top 8)) .none kV6 dc6 pm6 an6 cd6 ct6), sl6⟩) (c6 : PySem.W.codeIn K cd6 "_law_both" = true) (k6 : PySem.W.keepIn K (.ref f6) = true)
    {f7 : Addr} {od7 an7 : Option Addr} {sl7 : Array (Option Value)} {oc7 kV7 dc7 pm7 cd7 ct7 : Value} (a7 : PySem.W.nsIn K mainGlobals "_law_tree" = some (some (.ref f7))) (l7 : K.lookup f7 = some ⟨oc7, od7, .func (PySem.W.fnOf "_law_tree" "_law_tree" (defArgs (top 9)) (defBody (top 9)) (defScope (top 9)) .none kV7 dc7 pm7 an7 cd7 ct7), sl7⟩) (c7 : PySem.W.codeIn K cd7 "_law_tree" = true) (k7 : PySem.W.keepIn K (.ref f7) = true)
    {f8 : Addr} {od8 an8 : Option Addr} {sl8 : Array (Option Value)} {oc8 kV8 dc8 pm8 cd8 ct8 : Value} (a8 : PySem.W.nsIn K mainGlobals "_law_held" = some (some (.ref f8))) (l8 : K.lookup f8 = some ⟨oc8, od8, .func (PySem.W.fnOf "_law_held" "_law_held" (defArgs (top 10)) (defBody (top 10)) (defScope (top 10)) .none kV8 dc8 pm8 an8 cd8 ct8), sl8⟩) (c8 : PySem.W.codeIn K cd8 "_law_held" = true) (k8 : PySem.W.keepIn K (.ref f8) = true)
    {f9 : Addr} {od9 an9 : Option Addr} {sl9 : Array (Option Value)} {oc9 kV9 dc9 pm9 cd9 ct9 : Value} (a9 : PySem.W.nsIn K mainGlobals "law" = some (some (.ref f9))) (l9 : K.lookup f9 = some ⟨oc9, od9, .func (PySem.W.fnOf "law" "law" (defArgs (top 11)) (defBody (top 11)) (defScope (top 11)) .none kV9 dc9 pm9 an9 cd9 ct9), sl9⟩) (c9 : PySem.W.codeIn K cd9 "law" = true) (k9 : PySem.W.keepIn K (.ref f9) = true)
    (z0 : PySem.W.nsIn K mainGlobals "bool" = some none)
    (z1 : PySem.W.nsIn K mainGlobals "int" = some none)
    (z2 : PySem.W.nsIn K mainGlobals "isinstance" = some none)
    (z3 : PySem.W.nsIn K mainGlobals "len" = some none)
    (z4 : PySem.W.nsIn K mainGlobals "list" = some none)
    (z5 : PySem.W.nsIn K mainGlobals "range" = some none)
    : ∃ fd : FuncData, (∀ (s : Shared) (v : Value), BindsTo s fd ⟨[v], []⟩ [("_law_script", v)]) ∧ ∀ base : Heap, K.In base → base.Ns mainGlobals mg → FnOk l.prog w K mg base (L2.CX l.prog w) 40 fa fd ["_law_script"] (spLaw K) := by
  have e := hfa.symm.trans (PySem.W.mg_of X G a9)
  cases e
  have t0 := txt_mk (st := top 1) (ps := ["kind", "one", "other", "paper"]) X G a0 l0 c0 k0 fun _ _ _ _ _ _ us hl => match us, hl with | [_, _, _, _], _ => rfl
  have t1 := txt_mk (st := top 3) (ps := ["_law_script", "_law_k"]) X G a1 l1 c1 k1 fun _ _ _ _ _ _ us hl => match us, hl with | [_, _], _ => rfl
  have t2 := txt_mk (st := top 4) (ps := ["_law_cell", "_law_many"]) X G a2 l2 c2 k2 fun _ _ _ _ _ _ us hl => match us, hl with | [_, _], _ => rfl
  have t3 := txt_mk (st := top 5) (ps := ["_law_cell", "_law_words_here"]) X G a3 l3 c3 k3 fun _ _ _ _ _ _ us hl => match us, hl with | [_, _], _ => rfl
  have t4 := txt_mk (st := top 6) (ps := ["_law_cell", "_law_row_here", "_law_words_here"]) X G a4 l4 c4 k4 fun _ _ _ _ _ _ us hl => match us, hl with | [_, _, _], _ => rfl
  have t5 := txt_mk (st := top 7) (ps := ["_law_cell", "_law_rows", "_law_words_here"]) X G a5 l5 c5 k5 fun _ _ _ _ _ _ us hl => match us, hl with | [_, _, _], _ => rfl
  have t6 := txt_mk (st := top 8) (ps := ["_law_one", "_law_other"]) X G a6 l6 c6 k6 fun _ _ _ _ _ _ us hl => match us, hl with | [_, _], _ => rfl
  have t7 := txt_mk (st := top 9) (ps := ["_law_cell", "_law_leaves"]) X G a7 l7 c7 k7 fun _ _ _ _ _ _ us hl => match us, hl with | [_, _], _ => rfl
  have t8 := txt_mk (st := top 10) (ps := ["_law_found", "_law_due"]) X G a8 l8 c8 k8 fun _ _ _ _ _ _ us hl => match us, hl with | [_, _], _ => rfl
  have t9 := txt_mk (st := top 11) (ps := ["_law_script"]) X G a9 l9 c9 k9 fun _ _ _ _ _ _ us hl => match us, hl with | [_], _ => rfl
  have tl : Txt K mg "law" (top 11) fa (PySem.W.fnOf "law" "law" (defArgs (top 11)) (defBody (top 11)) (defScope (top 11)) .none kV9 dc9 pm9 an9 cd9 ct9) ["_law_script"] := ⟨fun_mk l9 c9 k9, PySem.W.mg_of X G a9, (fun_mk l9 c9 k9).binds fun _ _ _ _ _ _ us hl => match us, hl with | [_], _ => rfl⟩
  refine ⟨PySem.W.fnOf "law" "law" (defArgs (top 11)) (defBody (top 11)) (defScope (top 11)) .none kV9 dc9 pm9 an9 cd9 ct9, fun s v => .of_eq rfl, fun base _ _ => ?_⟩
  have B := tab_ok (T := T) (rows := rows) (fs := fs) (os := os) (bs := bs) (xs := xs) (C := ⟨K, fun i => ([] : List Addr).getD i 0⟩) (M := M) (P := l.prog) (w := w) (base := base) (mg := mg) rfl tb fo
    ((tx_cons ⟨f0, t0⟩ (tx_cons ⟨f1, t1⟩ (tx_cons ⟨f2, t2⟩ (tx_cons ⟨f3, t3⟩ (tx_cons ⟨f4, t4⟩ (tx_cons ⟨f5, t5⟩ (tx_cons ⟨f6, t6⟩ (tx_cons ⟨f7, t7⟩ (tx_cons ⟨f8, t8⟩ (tx_cons ⟨fa, t9⟩ tx_nil)))))))))))
    (bs_cons (PySem.W.mg_none_of X G z0) (bs_cons (PySem.W.mg_none_of X G z1) (bs_cons (PySem.W.mg_none_of X G z2) (bs_cons (PySem.W.mg_none_of X G z3) (bs_cons (PySem.W.mg_none_of X G z4) (bs_cons (PySem.W.mg_none_of X G z5) bs_nil))))))
    xc_nil
    xm_nil
    gl_nil
    40 9 _ _ rfl rfl _ _ tl
  exact B.imp (sp_law (C := ⟨K, fun i => ([] : List Addr).getD i 0⟩) law_true)
theorem walk {l : PySem.W.OpenLaw} {q : Program} {loose : List Str} {XP : (Str → Option Value) → Heap → Prop} {YP : World → Heap → Prop} {d : DefRec} {K : Params → PySem.W.Frag} (hn : l.most = some 63) (hdf : d.params.defaults = [])
    (hY : ∀ (w : World) (h : Heap), YP w h → (K w.params).In h)
    (F : ∀ (w : World) (mg : Str → Option Value) (fa : Addr) (h : Heap), (K w.params).In h → h.Ns mainGlobals mg → mg d.name = some (.ref fa) →
      ∃ fd : FuncData, (∀ (s : Shared) (u : Value), BindsTo s fd ⟨[u], []⟩ [("_law_script", u)]) ∧ ∀ base : Heap, (K w.params).In base → base.Ns mainGlobals mg → FnOk l.prog w (K w.params) mg base (L2.CX l.prog w) 40 fa fd ["_law_script"] (spLaw (K w.params))) :
    PySem.W.WalkO q loose XP YP l.row.toRowW d [] (fun f vs => PySem.call f vs) :=
  L2.walk_of (n := 63) (k := 40) (x := "_law_script") (CX := fun w => L2.CX l.prog w) (sp := fun w => spLaw (K w.params)) hn (by decide) hdf ⟨rfl, by decide, by decide⟩ hY F (fun _ _ a ns hl _ hS => ⟨a, ns, rfl, hS, hl, fun _ => rfl⟩) fun _ _ _ _ _ z => cx_none z
end Lw
open PySem PySem.W PyProof.Rows
set_option maxRecDepth 100000 in
set_option maxHeartbeats 0 in
theorem PySem.Challenge.cw_sealhouse_k81_tied_by_a_paper_holds : PySem.Challenge.rw_sealhouse_k81_tied_by_a_paper.Holds := by
  w_on; o_law; k_head; (case hw => w_witness2)
  k_fill
  refine Lw.walk (l := PySem.Challenge.rw_sealhouse_k81_tied_by_a_paper) rfl rfl (fun w h Y => PySem.W.kIn_of Y) ?F
  case F =>
    intro w mg fa h KX G hmg
    refine' Lw.all_mk KX G hmg ?lwa0 ?lwl0 ?lwc0 ?lwk0 ?lwa1 ?lwl1 ?lwc1 ?lwk1 ?lwa2 ?lwl2 ?lwc2 ?lwk2 ?lwa3 ?lwl3 ?lwc3 ?lwk3 ?lwa4 ?lwl4 ?lwc4 ?lwk4 ?lwa5 ?lwl5 ?lwc5 ?lwk5 ?lwa6 ?lwl6 ?lwc6 ?lwk6 ?lwa7 ?lwl7 ?lwc7 ?lwk7 ?lwa8 ?lwl8 ?lwc8 ?lwk8 ?lwa9 ?lwl9 ?lwc9 ?lwk9 ?lwz0 ?lwz1 ?lwz2 ?lwz3 ?lwz4 ?lwz5
    (case lwa0 => k_is)
    (case lwl0 => k_is)
    (case lwc0 => k_is)
    (case lwk0 => k_is)
    (case lwa1 => k_is)
    (case lwl1 => k_is)
    (case lwc1 => k_is)
    (case lwk1 => k_is)
    (case lwa2 => k_is)
    (case lwl2 => k_is)
    (case lwc2 => k_is)
    (case lwk2 => k_is)
    (case lwa3 => k_is)
    (case lwl3 => k_is)
    (case lwc3 => k_is)
    (case lwk3 => k_is)
    (case lwa4 => k_is)
    (case lwl4 => k_is)
    (case lwc4 => k_is)
    (case lwk4 => k_is)
    (case lwa5 => k_is)
    (case lwl5 => k_is)
    (case lwc5 => k_is)
    (case lwk5 => k_is)
    (case lwa6 => k_is)
    (case lwl6 => k_is)
    (case lwc6 => k_is)
    (case lwk6 => k_is)
    (case lwa7 => k_is)
    (case lwl7 => k_is)
    (case lwc7 => k_is)
    (case lwk7 => k_is)
    (case lwa8 => k_is)
    (case lwl8 => k_is)
    (case lwc8 => k_is)
    (case lwk8 => k_is)
    (case lwa9 => k_is)
    (case lwl9 => k_is)
    (case lwc9 => k_is)
    (case lwk9 => k_is)
    (case lwz0 => k_is)
    (case lwz1 => k_is)
    (case lwz2 => k_is)
    (case lwz3 => k_is)
    (case lwz4 => k_is)
    (case lwz5 => k_is)
