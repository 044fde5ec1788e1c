import PyProof.Rows.All
import Wide.All
import OpenK.AllK
import Wide.FinOn
import HandS.ForMost
import HandS.Exc
import HandS.TryOnly
import HandS.ExcOwn
import HandS.ExcInit
import HandS.WordsExc
import HandS.IsInst
import HandS.Wide
import HandS.Flow
import HandS.ClsMeth
import KE.KSuper
import KE.KExcSuper
import HandS.ExcField
import KE.BitLaws
import PySem.Challenge.RW_axlewire_k47_whole_senders_of_parts
set_option Elab.async false
set_option linter.all false
set_option maxRecDepth 100000
set_option maxHeartbeats 4000000
/-! Ax: the hand layer lifted to plain data. Dt: data trees; Sto: the mutable objects; Dat, Rep: how they lie in the abstract heap; low*: readings that speak of data alone. -/
namespace Ax
open PySem PySem.Spec PyProof.Rows L2

structure Kls where
  addr : Addr
  names : List Str
  deriving DecidableEq

inductive Dt where
  | non
  | bl (b : Bool)
  | int (i : Int)
  | str (x : Str)
  | lst (xs : List Dt)
  | tup (xs : List Dt)
  | dic (ks : List Key) (xs : List Dt)
  | adr (a : Addr)
  | scr (ns : List Int)
  | exc (a dd C : Addr) (ns : List Str) (xs : List Dt)

inductive MO where
  | lst (xs : List Dt)
  | dic (ks : List Key) (xs : List Dt)
  | ins (k : Kls) (xs : List Dt)

abbrev Sto := Addr → Option MO
def Sto.put (S : Sto) (a : Addr) (m : MO) : Sto := fun b => if b = a then some m else S b
def Sto.del (S : Sto) (a : Addr) : Sto := fun b => if b = a then none else S b
theorem put_same {S : Sto} {a : Addr} {m : MO} : S.put a m a = some m := if_pos rfl
theorem put_ne {S : Sto} {a b : Addr} {m : MO} (h : b ≠ a) : S.put a m b = S b := if_neg h
theorem put_put {S : Sto} {a : Addr} {m n : MO} : (S.put a m).put a n = S.put a n := by
  funext b
  unfold Sto.put
  split <;> rfl
theorem put_comm {S : Sto} {a b : Addr} {m n : MO} (h : a ≠ b) : (S.put a m).put b n = (S.put b n).put a m := by
  funext c
  unfold Sto.put
  by_cases h1 : c = b
  · subst h1
    rw [if_pos rfl, if_neg (Ne.symm h), if_pos rfl]
  · rw [if_neg h1]
    by_cases h2 : c = a
    · rw [if_pos h2, if_pos h2]
    · rw [if_neg h2, if_neg h2, if_neg h1]
theorem put_self {S : Sto} {a : Addr} {m : MO} (h : S a = some m) : S.put a m = S := by
  funext b
  unfold Sto.put
  split
  · rename_i e
    rw [e, h]
  · rfl
theorem del_put {S : Sto} {a : Addr} {m : MO} (h : S a = none) : (S.put a m).del a = S := by
  funext b
  unfold Sto.put Sto.del
  by_cases e : b = a
  · rw [if_pos e, e, h]
  · rw [if_neg e]
    exact if_neg e
theorem sto_ne {S : Sto} {a b : Addr} {m : MO} (h : S a = some m) (h' : S b = none) : a ≠ b := fun e => by
  rw [e, h'] at h
  cases h

/-- an immutable object that is tracked -/
def Im (F : Addr → Prop) (S : Sto) (H : Hp) (a : Addr) (o : HO) : Prop := H a = some o ∧ S a = none ∧ ¬ F a

/-- the script: read, never written -/
def ScrAt (K : PySem.W.Frag) (F : Addr → Prop) (S : Sto) (H : Hp) (a : Addr) (xs : List V) : Prop :=
  Im F S H a (.lst xs) ∨ (∃ o, Im F S H a (.frz o (.lst xs))) ∨
    ∃ (o : Obj) (its : Array Value) (n : Nat), K.lookup a = some o ∧ o.cls = .type "list" ∧ o.dict = none ∧ o.data = .seq its n ∧ its.size ≤ sizeLine ∧ Vals xs its.toList
theorem ScrAt.sq {K : PySem.W.Frag} {F : Addr → Prop} {S : Sto} {H : Hp} {a : Addr} {xs : List V} (h : ScrAt K F S H a xs) : SqL K H a xs := by
  rcases h with h | ⟨o, h⟩ | h
  · exact .inl (.inl h.1)
  · exact .inl (.inr ⟨o, h.1⟩)
  · exact .inr h

mutual
/-- the value v is the data tree -/
def Dat (K : PySem.W.Frag) (F : Addr → Prop) (S : Sto) (H : Hp) : Dt → V → Prop
  | .non, v => v = .non
  | .bl b, v => v = .bl b
  | .int i, v => v = .int i
  | .str x, v => v = .str x
  | .lst ds, v => ∃ a vs, v = .ref a ∧ Im F S H a (.lst vs) ∧ Dats K F S H ds vs
  | .tup ds, v => ∃ a vs, v = .ref a ∧ Im F S H a (.tup vs) ∧ Dats K F S H ds vs
  | .dic ks ds, v => ∃ a vs, v = .ref a ∧ Im F S H a (.dK (ks.zip vs)) ∧ ks.length = ds.length ∧ Dats K F S H ds vs
  | .adr a, v => v = .ref a
  | .scr ns, v => ∃ a, v = .ref a ∧ ScrAt K F S H a (ns.map V.int)
  | .exc a dd _ ns ds, v => v = .ref a ∧ ∃ vs, Im F S H dd (.xd (ns.zip vs)) ∧ ns.length = ds.length ∧ Dats K F S H ds vs
def Dats (K : PySem.W.Frag) (F : Addr → Prop) (S : Sto) (H : Hp) : List Dt → List V → Prop
  | [], vs => vs = []
  | d :: ds, vs => ∃ v r, vs = v :: r ∧ Dat K F S H d v ∧ Dats K F S H ds r
end

/-- what is immutable stays as it is, immutable; what is foreign stays as it is -/
def Keep (F : Addr → Prop) (S : Sto) (H : Hp) (S' : Sto) (H' : Hp) : Prop := (∀ a o, H a = some o → S a = none → ¬ F a → H' a = some o ∧ S' a = none) ∧ ∀ a, F a → H' a = H a
section
variable {K : PySem.W.Frag} {F : Addr → Prop} {S S1 S2 : Sto} {H H1 H2 : Hp}
theorem Keep.refl : Keep F S H S H := ⟨fun _ _ h h' _ => ⟨h, h'⟩, fun _ _ => rfl⟩
theorem Keep.trans (a : Keep F S H S1 H1) (b : Keep F S1 H1 S2 H2) : Keep F S H S2 H2 := ⟨fun c o h h' hf => by
  obtain ⟨h1, h2⟩ := a.1 c o h h' hf
  exact b.1 c o h1 h2 hf, fun c hf => (b.2 c hf).trans (a.2 c hf)⟩
theorem Im.keep {a : Addr} {o : HO} (h : Im F S H a o) (k : Keep F S H S1 H1) : Im F S1 H1 a o := by
  obtain ⟨h1, h2, h3⟩ := h
  obtain ⟨h4, h5⟩ := k.1 a o h1 h2 h3
  exact ⟨h4, h5, h3⟩
theorem ScrAt.keep {a : Addr} {xs : List V} (h : ScrAt K F S H a xs) (k : Keep F S H S1 H1) : ScrAt K F S1 H1 a xs := by
  rcases h with h | ⟨o, h⟩ | h
  · exact .inl (h.keep k)
  · exact .inr (.inl ⟨o, h.keep k⟩)
  · exact .inr (.inr h)
/-- immutable things stay as they are, whatever is foreign then -/
def Mv (F : Addr → Prop) (S : Sto) (H : Hp) (F1 : Addr → Prop) (S1 : Sto) (H1 : Hp) : Prop := ∀ a o, H a = some o → S a = none → ¬ F a → H1 a = some o ∧ S1 a = none ∧ ¬ F1 a
theorem Keep.mv (k : Keep F S H S1 H1) : Mv F S H F S1 H1 := fun a o h1 h2 h3 => ⟨(k.1 a o h1 h2 h3).1, (k.1 a o h1 h2 h3).2, h3⟩
variable {F1 : Addr → Prop}
theorem Im.move {a : Addr} {o : HO} (h : Im F S H a o) (k : Mv F S H F1 S1 H1) : Im F1 S1 H1 a o := k a o h.1 h.2.1 h.2.2
theorem ScrAt.move {a : Addr} {xs : List V} (h : ScrAt K F S H a xs) (k : Mv F S H F1 S1 H1) : ScrAt K F1 S1 H1 a xs := by
  rcases h with h | ⟨o, h⟩ | h
  · exact .inl (h.move k)
  · exact .inr (.inl ⟨o, h.move k⟩)
  · exact .inr (.inr h)
mutual
theorem Dat.move (k : Mv F S H F1 S1 H1) : ∀ (d : Dt) {v : V}, Dat K F S H d v → Dat K F1 S1 H1 d v
  | .non, v, h => by
    unfold Dat at h ⊢
    exact h
  | .bl b, v, h => by
    unfold Dat at h ⊢
    exact h
  | .int i, v, h => by
    unfold Dat at h ⊢
    exact h
  | .str x, v, h => by
    unfold Dat at h ⊢
    exact h
  | .lst ds, v, h => by
    unfold Dat at h ⊢
    obtain ⟨a, vs, e, i, r⟩ := h
    exact ⟨a, vs, e, i.move k, Dats.move k ds r⟩
  | .tup ds, v, h => by
    unfold Dat at h ⊢
    obtain ⟨a, vs, e, i, r⟩ := h
    exact ⟨a, vs, e, i.move k, Dats.move k ds r⟩
  | .dic ks ds, v, h => by
    unfold Dat at h ⊢
    obtain ⟨a, vs, e, i, l, r⟩ := h
    exact ⟨a, vs, e, i.move k, l, Dats.move k ds r⟩
  | .adr a, v, h => by
    unfold Dat at h ⊢
    exact h
  | .scr ns, v, h => by
    unfold Dat at h ⊢
    obtain ⟨a, e, i⟩ := h
    exact ⟨a, e, i.move k⟩
  | .exc a dd C ns ds, v, h => by
    unfold Dat at h ⊢
    obtain ⟨e, vs, i, l, r⟩ := h
    exact ⟨e, vs, i.move k, l, Dats.move k ds r⟩
theorem Dats.move (k : Mv F S H F1 S1 H1) : ∀ (ds : List Dt) {vs : List V}, Dats K F S H ds vs → Dats K F1 S1 H1 ds vs
  | [], vs, h => by
    unfold Dats at h ⊢
    exact h
  | d :: ds, vs, h => by
    unfold Dats at h ⊢
    obtain ⟨v, r, e, h1, h2⟩ := h
    exact ⟨v, r, e, Dat.move k d h1, Dats.move k ds h2⟩
end
theorem Dat.keep (k : Keep F S H S1 H1) (d : Dt) {v : V} (h : Dat K F S H d v) : Dat K F S1 H1 d v := Dat.move k.mv d h
theorem Dats.keep (k : Keep F S H S1 H1) (ds : List Dt) {vs : List V} (h : Dats K F S H ds vs) : Dats K F S1 H1 ds vs := Dats.move k.mv ds h
theorem dats_nil {vs : List V} : Dats K F S H [] vs ↔ vs = [] := by
  unfold Dats
  exact Iff.rfl
theorem dats_cons {d : Dt} {ds : List Dt} {vs : List V} : Dats K F S H (d :: ds) vs ↔ ∃ v r, vs = v :: r ∧ Dat K F S H d v ∧ Dats K F S H ds r := by
  rw [Dats]
theorem Dats.nil : Dats K F S H [] [] := dats_nil.mpr rfl
theorem Dats.cons {d : Dt} {ds : List Dt} {v : V} {vs : List V} (h : Dat K F S H d v) (r : Dats K F S H ds vs) : Dats K F S H (d :: ds) (v :: vs) := dats_cons.mpr ⟨v, vs, rfl, h, r⟩
theorem Dats.length : ∀ {ds : List Dt} {vs : List V}, Dats K F S H ds vs → vs.length = ds.length
  | [], vs, h => by
    rw [dats_nil.mp h]
    rfl
  | d :: ds, vs, h => by
    obtain ⟨v, r, e, _, h2⟩ := dats_cons.mp h
    rw [e, List.length_cons, List.length_cons, Dats.length h2]
theorem Dats.get : ∀ {ds : List Dt} {vs : List V} {i : Nat} {d : Dt}, Dats K F S H ds vs → ds[i]? = some d → ∃ v, vs[i]? = some v ∧ Dat K F S H d v
  | [], vs, i, d, h, e => by simp at e
  | d :: ds, vs, 0, d', h, e => by
    obtain ⟨v, r, e1, h1, _⟩ := dats_cons.mp h
    simp at e
    subst e1
    rw [← e]
    exact ⟨v, rfl, h1⟩
  | d :: ds, vs, i + 1, d', h, e => by
    obtain ⟨v, r, e1, _, h2⟩ := dats_cons.mp h
    subst e1
    obtain ⟨w, h3, h4⟩ := Dats.get (i := i) (d := d') h2 (by simpa using e)
    exact ⟨w, by simpa using h3, h4⟩
theorem Dats.of_get {ds : List Dt} {vs : List V} (h : Dats K F S H ds vs) {i : Nat} {v : V} (e : vs[i]? = some v) : ∃ d, ds[i]? = some d ∧ Dat K F S H d v := by
  have hl := h.length
  have hi : i < vs.length := (List.getElem?_eq_some_iff.mp e).1
  have hd : ds[i]? = some ds[i] := List.getElem?_eq_getElem (by omega)
  obtain ⟨w, h1, h2⟩ := h.get hd
  rw [e] at h1
  cases h1
  exact ⟨_, hd, h2⟩
theorem Dats.append : ∀ {ds es : List Dt} {vs ws : List V}, Dats K F S H ds vs → Dats K F S H es ws → Dats K F S H (ds ++ es) (vs ++ ws)
  | [], es, vs, ws, h, h' => by
    rw [dats_nil.mp h]
    exact h'
  | d :: ds, es, vs, ws, h, h' => by
    obtain ⟨v, r, e, h1, h2⟩ := dats_cons.mp h
    subst e
    exact Dats.cons h1 (Dats.append h2 h')
theorem Dats.take : ∀ (n : Nat) {ds : List Dt} {vs : List V}, Dats K F S H ds vs → Dats K F S H (ds.take n) (vs.take n)
  | 0, _, _, _ => by
    rw [List.take_zero, List.take_zero]
    exact Dats.nil
  | n + 1, [], vs, h => by
    rw [dats_nil.mp h]
    exact Dats.nil
  | n + 1, d :: ds, vs, h => by
    obtain ⟨v, r, e, h1, h2⟩ := dats_cons.mp h
    subst e
    exact Dats.cons h1 (Dats.take n h2)
theorem Dats.drop : ∀ (n : Nat) {ds : List Dt} {vs : List V}, Dats K F S H ds vs → Dats K F S H (ds.drop n) (vs.drop n)
  | 0, _, _, h => h
  | n + 1, [], vs, h => by
    rw [dats_nil.mp h]
    exact Dats.nil
  | n + 1, d :: ds, vs, h => by
    obtain ⟨v, r, e, h1, h2⟩ := dats_cons.mp h
    subst e
    exact Dats.drop n h2
theorem Dats.set : ∀ (n : Nat) {d : Dt} {v : V} {ds : List Dt} {vs : List V}, Dats K F S H ds vs → Dat K F S H d v → Dats K F S H (ds.set n d) (vs.set n v)
  | n, d, v, [], vs, h, _ => by
    rw [dats_nil.mp h]
    exact Dats.nil
  | 0, d, v, e :: ds, vs, h, hd => by
    obtain ⟨v', r, e, h1, h2⟩ := dats_cons.mp h
    subst e
    exact Dats.cons hd h2
  | n + 1, d, v, e :: ds, vs, h, hd => by
    obtain ⟨v', r, e, h1, h2⟩ := dats_cons.mp h
    subst e
    exact Dats.cons h1 (Dats.set n h2 hd)
theorem Dats.ints : ∀ {ns : List Int} {vs : List V}, Dats K F S H (ns.map Dt.int) vs ↔ vs = ns.map V.int
  | [], vs => dats_nil
  | n :: ns, vs => by
    rw [List.map_cons, dats_cons]
    constructor
    · rintro ⟨v, r, e, h1, h2⟩
      rw [Dats.ints.mp h2] at e
      unfold Dat at h1
      rw [e, h1]
      rfl
    · intro e
      exact ⟨V.int n, ns.map V.int, e, by unfold Dat; rfl, Dats.ints.mpr rfl⟩

/-- how a mutable object lies -/
def MOk (K : PySem.W.Frag) (F : Addr → Prop) (S : Sto) (H : Hp) (a : Addr) : MO → Prop
  | .lst ds => ∃ vs, H a = some (.lst vs) ∧ Dats K F S H ds vs
  | .dic ks ds => ∃ vs, H a = some (.dK (ks.zip vs)) ∧ ks.length = ds.length ∧ Dats K F S H ds vs
  | .ins k ds => ∃ dx vs, H a = some (.ins k.addr dx (k.names.zip vs)) ∧ ds.length ≤ k.names.length ∧ Dats K F S H ds vs
theorem MOk.here {a : Addr} {m : MO} (h : MOk K F S H a m) : ∃ o, H a = some o := by
  cases m with
  | lst ds =>
    obtain ⟨vs, e, _⟩ := h
    exact ⟨_, e⟩
  | dic ks ds =>
    obtain ⟨vs, e, _⟩ := h
    exact ⟨_, e⟩
  | ins k ds =>
    obtain ⟨dx, vs, e, _⟩ := h
    exact ⟨_, e⟩
theorem MOk.keep {a : Addr} {m : MO} (h : MOk K F S H a m) (k : Keep F S H S1 H1) (e : H1 a = H a) : MOk K F S1 H1 a m := by
  cases m with
  | lst ds =>
    obtain ⟨vs, h1, h2⟩ := h
    exact ⟨vs, e.trans h1, Dats.keep k _ h2⟩
  | dic ks ds =>
    obtain ⟨vs, h1, h2, h3⟩ := h
    exact ⟨vs, e.trans h1, h2, Dats.keep k _ h3⟩
  | ins c ds =>
    obtain ⟨dx, vs, h1, h2, h3⟩ := h
    exact ⟨dx, vs, e.trans h1, h2, Dats.keep k _ h3⟩
theorem MOk.move {F1 : Addr → Prop} {a : Addr} {m : MO} (h : MOk K F S H a m) (k : Mv F S H F1 S1 H1) (e : H1 a = H a) : MOk K F1 S1 H1 a m := by
  cases m with
  | lst ds =>
    obtain ⟨vs, h1, h2⟩ := h
    exact ⟨vs, e.trans h1, Dats.move k _ h2⟩
  | dic ks ds =>
    obtain ⟨vs, h1, h2, h3⟩ := h
    exact ⟨vs, e.trans h1, h2, Dats.move k _ h3⟩
  | ins c ds =>
    obtain ⟨dx, vs, h1, h2, h3⟩ := h
    exact ⟨dx, vs, e.trans h1, h2, Dats.move k _ h3⟩
/-- the store is in the heap; the foreign things stand -/
def Rep (K : PySem.W.Frag) (F : Addr → Prop) (S : Sto) (H : Hp) : Prop := (∀ a m, S a = some m → ¬ F a ∧ MOk K F S H a m) ∧ ∀ a, F a → ∃ o, H a = some o
theorem Rep.mo (R : Rep K F S H) {a : Addr} {m : MO} (h : S a = some m) : MOk K F S H a m := (R.1 a m h).2
theorem Rep.free (R : Rep K F S H) {a : Addr} (h : H a = none) : S a = none := by
  cases e : S a with
  | none => rfl
  | some m =>
    obtain ⟨o, q⟩ := (R.mo e).here
    rw [h] at q
    cases q
theorem Rep.nf (R : Rep K F S H) {a : Addr} (h : H a = none) : ¬ F a := fun hf => by
  obtain ⟨o, e⟩ := R.2 a hf
  rw [h] at e
  cases e
theorem Rep.empty : Rep K (fun _ => False) (fun _ => none) H := ⟨fun a m h => (by cases h), fun a h => h.elim⟩
theorem Keep.new {p : Addr} {o : HO} (hf : ¬ F p) (h : H p = none) : Keep F S H S (upd H p o) := ⟨fun a u h1 h2 _ => ⟨by rw [upd_ne (ne_of_none h1 h)]; exact h1, h2⟩, fun a ha => upd_ne fun e => hf (e ▸ ha)⟩
theorem Keep.newM {p : Addr} {o : HO} {m : MO} (hf : ¬ F p) (h : H p = none) : Keep F S H (S.put p m) (upd H p o) := ⟨fun a u h1 h2 _ => ⟨by rw [upd_ne (ne_of_none h1 h)]; exact h1, by rw [put_ne (ne_of_none h1 h)]; exact h2⟩, fun a ha => upd_ne fun e => hf (e ▸ ha)⟩
theorem Keep.writ {p : Addr} {o : HO} {m m0 : MO} (hf : ¬ F p) (h : S p = some m0) : Keep F S H (S.put p m) (upd H p o) := ⟨fun a u h1 h2 _ => by
  have ne : a ≠ p := fun e => by
    rw [e, h] at h2
    cases h2
  exact ⟨by rw [upd_ne ne]; exact h1, by rw [put_ne ne]; exact h2⟩, fun a ha => upd_ne fun e => hf (e ▸ ha)⟩
theorem Rep.kn (R : Rep K F S H) {p : Addr} {o : HO} (h : H p = none) : Keep F S H S (upd H p o) := Keep.new (R.nf h) h
theorem Rep.knM (R : Rep K F S H) {p : Addr} {o : HO} {m : MO} (h : H p = none) : Keep F S H (S.put p m) (upd H p o) := Keep.newM (R.nf h) h
theorem Rep.kw (R : Rep K F S H) {p : Addr} {o : HO} {m m0 : MO} (h : S p = some m0) : Keep F S H (S.put p m) (upd H p o) := Keep.writ (R.1 p m0 h).1 h
/-- a new immutable object -/
theorem Rep.new (R : Rep K F S H) {p : Addr} {o : HO} (h : H p = none) : Rep K F S (upd H p o) := ⟨fun a m e => by
  have q := R.mo e
  obtain ⟨u, hu⟩ := q.here
  exact ⟨(R.1 a m e).1, q.keep (R.kn h) (upd_ne (ne_of_none hu h))⟩, fun a hf => by
  obtain ⟨u, hu⟩ := R.2 a hf
  exact ⟨u, by rw [upd_ne (ne_of_none hu h)]; exact hu⟩⟩
/-- an object that is made, or written -/
theorem Rep.put (R : Rep K F S H) {p : Addr} {o : HO} {m : MO} (hf : ¬ F p) (k : Keep F S H (S.put p m) (upd H p o)) (ok : MOk K F (S.put p m) (upd H p o) p m) : Rep K F (S.put p m) (upd H p o) := ⟨fun a n e => by
  by_cases h : a = p
  · subst h
    rw [put_same] at e
    cases e
    exact ⟨hf, ok⟩
  · rw [put_ne h] at e
    exact ⟨(R.1 a n e).1, (R.mo e).keep k (upd_ne h)⟩, fun a ha => by
  obtain ⟨u, hu⟩ := R.2 a ha
  exact ⟨u, (k.2 a ha).trans hu⟩⟩
/-- a mutable object becomes immutable -/
theorem Keep.del {a : Addr} : Keep F S H (S.del a) H := ⟨fun b o h h' _ => ⟨h, by
  unfold Sto.del
  split
  · rfl
  · exact h'⟩, fun _ _ => rfl⟩
theorem Rep.del (R : Rep K F S H) {a : Addr} : Rep K F (S.del a) H := ⟨fun b m e => by
  unfold Sto.del at e
  split at e
  · cases e
  · exact ⟨(R.1 b m e).1, (R.mo e).keep Keep.del rfl⟩, R.2⟩
theorem del_same {a : Addr} : S.del a a = none := if_pos rfl
end

/-! ### the frame's names -/
abbrev Env := List (Option Dt)
def Sl (K : PySem.W.Frag) (F : Addr → Prop) (S : Sto) (H : Hp) (σ : L2.St) (ds : Env) : Prop := σ.length = ds.length ∧ ∀ (i : Nat) (d : Dt), ds[i]? = some (some d) → ∃ v, σ[i]? = some (some v) ∧ Dat K F S H d v
section
variable {K : PySem.W.Frag} {F : Addr → Prop} {S S1 S2 : Sto} {H H1 H2 : Hp} {σ : L2.St} {ds : Env}
theorem Sl.keep (h : Sl K F S H σ ds) (k : Keep F S H S1 H1) : Sl K F S1 H1 σ ds := ⟨h.1, fun i d e => by
  obtain ⟨v, h1, h2⟩ := h.2 i d e
  exact ⟨v, h1, Dat.keep k d h2⟩⟩
theorem Sl.set (h : Sl K F S H σ ds) {i : Nat} {d : Dt} {v : V} (hd : Dat K F S H d v) : Sl K F S H (σ.set i (some v)) (ds.set i (some d)) := ⟨by rw [List.length_set, List.length_set]; exact h.1, fun j e q => by
  by_cases hj : i = j
  · subst hj
    by_cases hl : i < ds.length
    · rw [List.getElem?_set_self hl] at q
      cases q
      exact ⟨v, by rw [List.getElem?_set_self (by rw [h.1]; exact hl)], hd⟩
    · rw [List.getElem?_eq_none (by rw [List.length_set]; omega)] at q
      cases q
  · rw [List.getElem?_set_ne hj] at q
    rw [List.getElem?_set_ne hj]
    exact h.2 j e q⟩
theorem Sl.gone (h : Sl K F S H σ ds) {i : Nat} {o : Option V} : Sl K F S H (σ.set i o) (ds.set i none) := ⟨by rw [List.length_set, List.length_set]; exact h.1, fun j e q => by
  by_cases hj : i = j
  · subst hj
    by_cases hl : i < ds.length
    · rw [List.getElem?_set_self hl] at q
      cases q
    · rw [List.getElem?_eq_none (by rw [List.length_set]; omega)] at q
      cases q
  · rw [List.getElem?_set_ne hj] at q
    rw [List.getElem?_set_ne hj]
    exact h.2 j e q⟩
end

/-! ### exceptions -/
structure Exc where
  cls : Addr
  names : List Str
  fs : List Dt
def ExOk (K : PySem.W.Frag) (F : Addr → Prop) (S : Sto) (H : Hp) (x : Exc) (cls : Value) (da : Option Addr) : Prop :=
  cls = .ref x.cls ∧ ∃ dd vs, da = some dd ∧ Im F S H dd (.xd (x.names.zip vs)) ∧ x.names.length = x.fs.length ∧ Dats K F S H x.fs vs
theorem ExOk.keep {K : PySem.W.Frag} {F : Addr → Prop} {S S1 : Sto} {H H1 : Hp} {x : Exc} {cls : Value} {da : Option Addr} (h : ExOk K F S H x cls da) (k : Keep F S H S1 H1) : ExOk K F S1 H1 x cls da := by
  obtain ⟨e, dd, vs, e2, i, l, r⟩ := h
  exact ⟨e, dd, vs, e2, i.keep k, l, Dats.keep k _ r⟩

/-! ### the lifted readings -/
abbrev Kt := Dt → Sto → Prop
abbrev Xt := Exc → Sto → Prop
/-- pure: the store stays -/
abbrev PX := Env → Sto → Option Dt
abbrev PB := Env → Sto → Option Bool
abbrev PL := Env → Sto → Option (List Dt)
/-- any -/
abbrev LTe := Env → Sto → Kt → Xt → Prop
abbrev LTb := Env → Sto → (Bool → Sto → Prop) → Xt → Prop
abbrev LTa := Env → Sto → (List Dt → Sto → Prop) → Xt → Prop
structure LEnds where
  nx : Env → Sto → Prop
  rt : Kt
  bk : Env → Sto → Prop := fun _ _ => False
  ct : Env → Sto → Prop := fun _ _ => False
  xc : Env → Xt := fun _ _ _ => False
abbrev LTs := LEnds → Env → Sto → Prop

def lowP (K : PySem.W.Frag) (f : PX) : TE := fun σ H Q => ∃ F ds S d, Rep K F S H ∧ Sl K F S H σ ds ∧ f ds S = some d ∧ ∀ v H', Rep K F S H' → Keep F S H S H' → Dat K F S H' d v → Q v H'
def lowPB (K : PySem.W.Frag) (f : PB) : TT := fun σ H Q => ∃ F ds S b, Rep K F S H ∧ Sl K F S H σ ds ∧ f ds S = some b ∧ ∀ H', Rep K F S H' → Keep F S H S H' → Q b H'
def lowPL (K : PySem.W.Frag) (f : PL) : TA := fun σ H Q => ∃ F ds S xs, Rep K F S H ∧ Sl K F S H σ ds ∧ f ds S = some xs ∧ ∀ vs H', Rep K F S H' → Keep F S H S H' → Dats K F S H' xs vs → Q vs H'
/-- an exception's wish, lifted -/
def XOk (K : PySem.W.Frag) (W : WX) (Ψ : Xt) (σ : L2.St) (F : Addr → Prop) (S : Sto) (H : Hp) : Prop := ∀ x S' cls da H', Ψ x S' → Rep K F S' H' → Keep F S H S' H' → ExOk K F S' H' x cls da → W cls da σ H'
def low (K : PySem.W.Frag) (W : WX) (T : LTe) : TE := fun σ H Q => ∃ F ds S Φ Ψ, Rep K F S H ∧ Sl K F S H σ ds ∧ T ds S Φ Ψ ∧ (∀ d S' v H', Φ d S' → Rep K F S' H' → Keep F S H S' H' → Dat K F S' H' d v → Q v H') ∧ XOk K W Ψ σ F S H
def lowB (K : PySem.W.Frag) (W : WX) (T : LTb) : TT := fun σ H Q => ∃ F ds S Φ Ψ, Rep K F S H ∧ Sl K F S H σ ds ∧ T ds S Φ Ψ ∧ (∀ b S' H', Φ b S' → Rep K F S' H' → Keep F S H S' H' → Q b H') ∧ XOk K W Ψ σ F S H
def lowA (K : PySem.W.Frag) (W : WX) (T : LTa) : TA := fun σ H Q => ∃ F ds S Φ Ψ, Rep K F S H ∧ Sl K F S H σ ds ∧ T ds S Φ Ψ ∧ (∀ xs S' vs H', Φ xs S' → Rep K F S' H' → Keep F S H S' H' → Dats K F S' H' xs vs → Q vs H') ∧ XOk K W Ψ σ F S H
structure EndsOk (K : PySem.W.Frag) (W : WX) (D : Ends) (L : LEnds) (F : Addr → Prop) (S : Sto) (H : Hp) : Prop where
  nx : ∀ ds' S' σ' H', L.nx ds' S' → Rep K F S' H' → Keep F S H S' H' → Sl K F S' H' σ' ds' → D.nx σ' H'
  rt : ∀ d S' v H', L.rt d S' → Rep K F S' H' → Keep F S H S' H' → Dat K F S' H' d v → D.rt v H'
  bk : ∀ ds' S' σ' H', L.bk ds' S' → Rep K F S' H' → Keep F S H S' H' → Sl K F S' H' σ' ds' → D.bk σ' H'
  ct : ∀ ds' S' σ' H', L.ct ds' S' → Rep K F S' H' → Keep F S H S' H' → Sl K F S' H' σ' ds' → D.ct σ' H'
  xc : ∀ ds' x S' cls da σ' H', L.xc ds' x S' → Rep K F S' H' → Keep F S H S' H' → Sl K F S' H' σ' ds' → ExOk K F S' H' x cls da → W cls da σ' H'
def lowS (K : PySem.W.Frag) (W : WX) (T : LTs) : TS := fun D σ H => ∃ F ds S L, Rep K F S H ∧ Sl K F S H σ ds ∧ T L ds S ∧ EndsOk K W D L F S H
section
variable {K : PySem.W.Frag} {W : WX} {F : Addr → Prop} {S S1 S2 : Sto} {H H1 H2 : Hp} {σ : L2.St} {ds : Env} {D : Ends} {L : LEnds} {Ψ : Xt}
theorem XOk.keep (h : XOk K W Ψ σ F S H) (k : Keep F S H S1 H1) : XOk K W Ψ σ F S1 H1 := fun x S' cls da H' a b c d => h x S' cls da H' a b (k.trans c) d
theorem EndsOk.keep (h : EndsOk K W D L F S H) (k : Keep F S H S1 H1) : EndsOk K W D L F S1 H1 :=
  ⟨fun ds' S' σ' H' a b c d => h.nx ds' S' σ' H' a b (k.trans c) d, fun x S' v H' a b c d => h.rt x S' v H' a b (k.trans c) d, fun ds' S' σ' H' a b c d => h.bk ds' S' σ' H' a b (k.trans c) d,
   fun ds' S' σ' H' a b c d => h.ct ds' S' σ' H' a b (k.trans c) d, fun ds' x S' cls da σ' H' a b c d e => h.xc ds' x S' cls da σ' H' a b (k.trans c) d e⟩
theorem EndsOk.x (h : EndsOk K W D L F S H) (sl : Sl K F S H σ ds) : XOk K W (L.xc ds) σ F S H := fun x S' cls da H' a b c d => h.xc ds x S' cls da σ H' a b c (sl.keep c) d
end

/-! ### the judgements -/
def LP (X : Cx) (e : Expr) (f : PX) : Prop := PE X e (lowP X.K f)
def LPB (X : Cx) (e : Expr) (f : PB) : Prop := PT X e (lowPB X.K f)
def LPA (X : Cx) (es : List Expr) (f : PL) : Prop := PA X es (lowPL X.K f)
def LE (X : Cx) (W : WX) (e : Expr) (T : LTe) : Prop := PE X e (low X.K W T)
def LB (X : Cx) (W : WX) (e : Expr) (T : LTb) : Prop := PT X e (lowB X.K W T)
def LA (X : Cx) (W : WX) (es : List Expr) (T : LTa) : Prop := PA X es (lowA X.K W T)
def LS (X : Cx) (W : WX) (st : Stmt) (T : LTs) : Prop := PS X st (lowS X.K W T)
def LSs (X : Cx) (W : WX) (st : List Stmt) (T : LTs) : Prop := PSs X st (lowS X.K W T)
section
variable {X : Cx} {e : Expr} {es : List Expr} {st : Stmt} {sts : List Stmt}
theorem pe_weak {t t' : TE} (h : PE X e t) (k : ∀ σ H Q, t' σ H Q → t σ H Q) : PE X e t' := ⟨fun pins s σ H Q I q => h.run pins s σ H Q I (k _ _ _ q)⟩
theorem pt_weak {t t' : TT} (h : PT X e t) (k : ∀ σ H Q, t' σ H Q → t σ H Q) : PT X e t' := ⟨fun pins s σ H Q I q => h.run pins s σ H Q I (k _ _ _ q)⟩
theorem pw_weak {t t' : TT} (h : PW X e t) (k : ∀ σ H Q, t' σ H Q → t σ H Q) : PW X e t' := ⟨fun wh pins s σ H Q I q => h.run wh pins s σ H Q I (k _ _ _ q)⟩
theorem pa_weak {t t' : TA} (h : PA X es t) (k : ∀ σ H Q, t' σ H Q → t σ H Q) : PA X es t' := ⟨fun pos pins s σ H Q I q => h.run pos pins s σ H Q I (k _ _ _ q)⟩
theorem ps_weak {t t' : TS} (h : PS X st t) (k : ∀ D σ H, t' D σ H → t D σ H) : PS X st t' := ⟨fun pins s σ H D I q => h.run pins s σ H D I (k _ _ _ q)⟩
theorem pss_weak {t t' : TS} (h : PSs X sts t) (k : ∀ D σ H, t' D σ H → t D σ H) : PSs X sts t' := ⟨fun pins s σ H D I q => h.run pins s σ H D I (k _ _ _ q)⟩
/-- pure ones are some -/
def ofP (f : PX) : LTe := fun ds S Φ _ => ∃ d, f ds S = some d ∧ Φ d S
def ofB (f : PB) : LTb := fun ds S Φ _ => ∃ b, f ds S = some b ∧ Φ b S
def ofL (f : PL) : LTa := fun ds S Φ _ => ∃ xs, f ds S = some xs ∧ Φ xs S
theorem le_p {W : WX} {f : PX} (h : LP X e f) : LE X W e (ofP f) := pe_weak h fun σ H Q ⟨F, ds, S, Φ, Ψ, R, sl, ⟨d, hd, hk⟩, k, _⟩ => ⟨F, ds, S, d, R, sl, hd, fun v H' R' kp dv => k d S v H' hk R' kp dv⟩
theorem lb_p {W : WX} {f : PB} (h : LPB X e f) : LB X W e (ofB f) := pt_weak h fun σ H Q ⟨F, ds, S, Φ, Ψ, R, sl, ⟨d, hd, hk⟩, k, _⟩ => ⟨F, ds, S, d, R, sl, hd, fun H' R' kp => k d S H' hk R' kp⟩
theorem la_p {W : WX} {f : PL} (h : LPA X es f) : LA X W es (ofL f) := pa_weak h fun σ H Q ⟨F, ds, S, Φ, Ψ, R, sl, ⟨d, hd, hk⟩, k, _⟩ => ⟨F, ds, S, d, R, sl, hd, fun v H' R' kp dv => k d S v H' hk R' kp dv⟩
end
end Ax
set_option maxRecDepth 100000
set_option maxHeartbeats 4000000
/-! Ax: pure expressions. -/
namespace Ax
open PySem PySem.Spec PyProof.Rows L2
/-! ### views -/
section
variable {K : PySem.W.Frag} {F : Addr → Prop} {S : Sto} {H : Hp}
theorem dat_non {v : V} : Dat K F S H .non v ↔ v = .non := by rw [Dat]
theorem dat_bl {v : V} {b : Bool} : Dat K F S H (.bl b) v ↔ v = .bl b := by rw [Dat]
theorem dat_int {v : V} {i : Int} : Dat K F S H (.int i) v ↔ v = .int i := by rw [Dat]
theorem dat_str {v : V} {x : Str} : Dat K F S H (.str x) v ↔ v = .str x := by rw [Dat]
theorem dat_adr {v : V} {a : Addr} : Dat K F S H (.adr a) v ↔ v = .ref a := by rw [Dat]
theorem dat_lst {v : V} {xs : List Dt} : Dat K F S H (.lst xs) v ↔ ∃ a vs, v = .ref a ∧ Im F S H a (.lst vs) ∧ Dats K F S H xs vs := by rw [Dat]
theorem dat_tup {v : V} {xs : List Dt} : Dat K F S H (.tup xs) v ↔ ∃ a vs, v = .ref a ∧ Im F S H a (.tup vs) ∧ Dats K F S H xs vs := by rw [Dat]
theorem dat_dic {v : V} {ks : List Key} {xs : List Dt} : Dat K F S H (.dic ks xs) v ↔ ∃ a vs, v = .ref a ∧ Im F S H a (.dK (ks.zip vs)) ∧ ks.length = xs.length ∧ Dats K F S H xs vs := by rw [Dat]
theorem dat_exc {v : V} {a dd C : Addr} {ns : List Str} {xs : List Dt} : Dat K F S H (.exc a dd C ns xs) v ↔ v = .ref a ∧ ∃ vs, Im F S H dd (.xd (ns.zip vs)) ∧ ns.length = xs.length ∧ Dats K F S H xs vs := by rw [Dat]
theorem dat_scr {v : V} {ns : List Int} : Dat K F S H (.scr ns) v ↔ ∃ a, v = .ref a ∧ ScrAt K F S H a (ns.map V.int) := by rw [Dat]
/-- a list that is tracked, immutable or not -/
def dLst (S : Sto) : Dt → Option (List Dt)
  | .lst xs => some xs
  | .adr a => match S a with
    | some (.lst xs) => some xs
    | _ => none
  | _ => none
def dTup : Dt → Option (List Dt)
  | .tup xs => some xs
  | _ => none
def dDic (S : Sto) : Dt → Option (List Key × List Dt)
  | .dic ks xs => some (ks, xs)
  | .adr a => match S a with
    | some (.dic ks xs) => some (ks, xs)
    | _ => none
  | _ => none
theorem dLst_ok {d : Dt} {v : V} {xs : List Dt} (R : Rep K F S H) (h : Dat K F S H d v) (e : dLst S d = some xs) : ∃ a vs, v = .ref a ∧ H a = some (.lst vs) ∧ Dats K F S H xs vs := by
  cases d with
  | lst ys =>
    cases e
    obtain ⟨a, vs, e, i, r⟩ := dat_lst.mp h
    exact ⟨a, vs, e, i.1, r⟩
  | adr a =>
    have e' : (match S a with | some (.lst xs) => some xs | _ => none) = some xs := e
    split at e'
    · rename_i ys hs
      cases e'
      obtain ⟨vs, h1, h2⟩ := R.mo hs
      exact ⟨a, vs, dat_adr.mp h, h1, h2⟩
    · cases e'
  | _ => cases e
theorem dTup_ok {d : Dt} {v : V} {xs : List Dt} (h : Dat K F S H d v) (e : dTup d = some xs) : ∃ a vs, v = .ref a ∧ Im F S H a (.tup vs) ∧ Dats K F S H xs vs := by
  cases d with
  | tup ys =>
    cases e
    exact dat_tup.mp h
  | _ => cases e
theorem dDic_ok {d : Dt} {v : V} {ks : List Key} {xs : List Dt} (R : Rep K F S H) (h : Dat K F S H d v) (e : dDic S d = some (ks, xs)) : ∃ a vs, v = .ref a ∧ H a = some (.dK (ks.zip vs)) ∧ ks.length = xs.length ∧ Dats K F S H xs vs := by
  cases d with
  | dic ks' ys =>
    cases e
    obtain ⟨a, vs, e, i, l, r⟩ := dat_dic.mp h
    exact ⟨a, vs, e, i.1, l, r⟩
  | adr a =>
    have e' : (match S a with | some (.dic ks xs) => some (ks, xs) | _ => none) = some (ks, xs) := e
    split at e'
    · rename_i ks' ys hs
      cases e'
      obtain ⟨vs, h1, h2, h3⟩ := R.mo hs
      exact ⟨a, vs, dat_adr.mp h, h1, h2, h3⟩
    · cases e'
  | _ => cases e
end

/-! ### names, constants -/
def pVar (i : Nat) : PX := fun ds _ => match ds[i]? with
  | some o => o
  | none => none
def pC (d : Dt) : PX := fun _ _ => some d
section
variable {X : Cx} {e a b c : Expr} {es : List Expr} {pos : Pos} {f g : PX} {p q : PB}
theorem lp_var {i : Nat} {x : Str} (hN : X.N[i]? = some x := by rfl) (hv : Vis X.env.scope x := by first | exact Or.inl rfl | exact Or.inr (Or.inl rfl) | exact Or.inr (Or.inr rfl)) (hd : (x == ("__debug__" : Str)) = false := by decide)
    (hcd : (x == ("__classdict__" : Str)) = false := by decide) : LP X (.Name x pos) (pVar i) := pe_weak (pe_var hN hv hd hcd) fun σ H Q ⟨F, ds, S, d, R, sl, hd, k⟩ => by
  have e : ds[i]? = some (some d) := by
    unfold pVar at hd
    split at hd
    · rename_i o ho
      rw [ho, hd]
    · cases hd
  obtain ⟨v, h1, h2⟩ := sl.2 i d e
  exact ⟨v, h1, k v H R Keep.refl h2⟩
theorem lp_int {i : Int} {j : Nat} : LP X (.Constant (.int i) j pos) (pC (.int i)) := pe_weak pe_int fun σ H Q ⟨F, ds, S, d, R, sl, hd, k⟩ => by
  cases hd
  exact k _ H R Keep.refl (dat_int.mpr rfl)
theorem lp_bl {b : Bool} {j : Nat} : LP X (.Constant (.bool b) j pos) (pC (.bl b)) := pe_weak pe_bl fun σ H Q ⟨F, ds, S, d, R, sl, hd, k⟩ => by
  cases hd
  exact k _ H R Keep.refl (dat_bl.mpr rfl)
theorem lp_non {j : Nat} : LP X (.Constant .none j pos) (pC .non) := pe_weak pe_non fun σ H Q ⟨F, ds, S, d, R, sl, hd, k⟩ => by
  cases hd
  exact k _ H R Keep.refl (dat_non.mpr rfl)
theorem lp_str {x : Str} {j : Nat} : LP X (.Constant (.str x) j pos) (pC (.str x)) := pe_weak pe_str fun σ H Q ⟨F, ds, S, d, R, sl, hd, k⟩ => by
  cases hd
  exact k _ H R Keep.refl (dat_str.mpr rfl)
/-- a module's constant -/
theorem lp_globI {x : Str} {i : Int} (hm : ∃ t, X.mg x = some (.int i t)) (hg : Gl X x := by rfl) (hd : (x == ("__debug__" : Str)) = false := by decide) : LP X (.Name x pos) (pC (.int i)) := by
  obtain ⟨t, ht⟩ := hm
  exact pe_weak (pe_glob (v := .int i) hg ht ⟨t, rfl⟩ hd) fun σ H Q ⟨F, ds, S, d, R, sl, hd, k⟩ => by
    cases hd
    exact k _ H R Keep.refl (dat_int.mpr rfl)

theorem lowP_imp {K : PySem.W.Frag} {σ : L2.St} {H : Hp} {Q Q' : VK} (h : lowP K f σ H Q) (k : ∀ v H', Q v H' → Q' v H') : lowP K f σ H Q' := by
  obtain ⟨F, ds, S, d, R, sl, hd, q⟩ := h
  exact ⟨F, ds, S, d, R, sl, hd, fun v H' R' k' dv => k v H' (q v H' R' k' dv)⟩
/-! ### operators -/
theorem op_any {f : Value → Value → Sem Value} {r1 r2 : R2} (h1 : OpR X f r1) (h2 : OpR X f r2) : OpR X f (fun x y H Q => r1 x y H Q ∨ r2 x y H Q) := fun pins s σ H x y v u Q I rx ry h =>
  h.elim (h1 pins s σ H x y v u Q I rx ry) (h2 pins s σ H x y v u Q I rx ry)
def OpS (K : PySem.W.Frag) (r : R2) (o : Sto → Dt → Dt → Option Dt) : Prop := ∀ F S H x y vx vy z Q, Rep K F S H → Dat K F S H x vx → Dat K F S H y vy → o S x y = some z → (∀ v H', Rep K F S H' → Keep F S H S H' → Dat K F S H' z v → Q v H') → r vx vy H Q
theorem OpS.l {K : PySem.W.Frag} {r1 r2 : R2} {o : Sto → Dt → Dt → Option Dt} (h : ∀ F S H x y vx vy z Q, Rep K F S H → Dat K F S H x vx → Dat K F S H y vy → o S x y = some z → (∀ v H', Rep K F S H' → Keep F S H S H' → Dat K F S H' z v → Q v H') → r1 vx vy H Q ∨ r2 vx vy H Q) :
    OpS K (fun x y H Q => r1 x y H Q ∨ r2 x y H Q) o := h
def pOp (o : Sto → Dt → Dt → Option Dt) (f g : PX) : PX := fun ds S => (f ds S).bind fun x => (g ds S).bind fun y => o S x y
theorem op_low {K : PySem.W.Frag} {r : R2} {o : Sto → Dt → Dt → Option Dt} (hs : OpS K r o) {σ : L2.St} {H : Hp} {Q : VK} (h : lowP K (pOp o f g) σ H Q) : tOp r (lowP K f) (lowP K g) σ H Q := by
  obtain ⟨F, ds, S, d, R, sl, hd, k⟩ := h
  unfold pOp at hd
  cases hx : f ds S with
  | none =>
    rw [hx] at hd
    cases hd
  | some x =>
    rw [hx, Option.bind_some] at hd
    cases hy : g ds S with
    | none =>
      rw [hy] at hd
      cases hd
    | some y =>
      rw [hy, Option.bind_some] at hd
      exact ⟨F, ds, S, x, R, sl, hx, fun vx H1 R1 k1 d1 => ⟨F, ds, S, y, R1, sl.keep k1, hy, fun vy H2 R2 k2 d2 => hs F S H2 x y vx vy d Q R2 (Dat.keep k2 _ d1) d2 hd fun v H' R' k' dv => k v H' R' ((k1.trans k2).trans k') dv⟩⟩
theorem lp_op {op : Operator} {r : R2} {o : Sto → Dt → Dt → Option Dt} (ho : OpR X (binaryOp op) r) (hs : OpS X.K r o) (ha : LP X a f) (hb : LP X b g) : LP X (.BinOp a op b pos) (pOp o f g) :=
  pe_weak (pe_op ho ha hb) fun _ _ _ h => op_low hs h
theorem lp_cmp {op : CmpOp} {r : R2} {o : Sto → Dt → Dt → Option Dt} (ho : OpR X (compareOp op) r) (hs : OpS X.K r o) (ha : LP X a f) (hb : LP X b g) (hm : behindInMarks op b = false) : LP X (.Compare a [op] [b] pos) (pOp o f g) :=
  pe_weak (pe_cmpR ho ha hb hm) fun _ _ _ h => op_low hs h
def asB : Dt → Option Bool
  | .bl b => some b
  | _ => none
def pB (f : PX) : PB := fun ds S => (f ds S).bind asB
theorem asB_some {d : Dt} {b : Bool} (h : asB d = some b) : d = .bl b := by
  cases d <;> first | (cases h; rfl) | cases h
theorem pB_some {ds : Env} {S : Sto} {b : Bool} (h : pB f ds S = some b) : f ds S = some (.bl b) := by
  unfold pB at h
  cases hx : f ds S with
  | none =>
    rw [hx] at h
    cases h
  | some x =>
    rw [hx, Option.bind_some] at h
    rw [asB_some h]
theorem lpb_cmp {op : CmpOp} {r : R2} {o : Sto → Dt → Dt → Option Dt} (ho : OpR X (compareOp op) r) (hs : OpS X.K r o) (ha : LP X a f) (hb : LP X b g) (hm : behindInMarks op b = false) : LPB X (.Compare a [op] [b] pos) (pB (pOp o f g)) :=
  pt_weak (pt_cmpR ho ha hb hm) fun σ H Q ⟨F, ds, S, d, R, sl, hd, k⟩ => op_low hs ⟨F, ds, S, .bl d, R, sl, pB_some hd, fun v H' R' k' dv => ⟨d, dat_bl.mp dv, k H' R' k'⟩⟩

/-! ints -/
def dI2 (c : Int → Int → Bool) (h : Int → Int → Dt) : Sto → Dt → Dt → Option Dt := fun _ x y => match x, y with
  | .int i, .int j => if c i j = true then some (h i j) else none
  | _, _ => none
theorem dI2_ok {C : Int → Int → Prop} {c : Int → Int → Bool} {h : Int → Int → Dt} {h' : Int → Int → V} (hC : ∀ i j, c i j = true → C i j) (hh : ∀ K F S H i j, Dat K F S H (h i j) (h' i j)) {K : PySem.W.Frag} : OpS K (rI C h') (dI2 c h) := by
  intro F S H x y vx vy z Q R dx dy e k
  unfold dI2 at e
  split at e
  · rename_i i j
    split at e
    · rename_i hc
      cases e
      exact ⟨i, j, dat_int.mp dx, dat_int.mp dy, hC i j hc, k _ H R Keep.refl (hh K F S H i j)⟩
    · cases e
  · cases e
def dI (h : Int → Int → Dt) : Sto → Dt → Dt → Option Dt := fun _ x y => match x, y with
  | .int i, .int j => some (h i j)
  | _, _ => none
theorem dI_ok {h : Int → Int → Dt} {h' : Int → Int → V} (hh : ∀ K F S H i j, Dat K F S H (h i j) (h' i j)) {K : PySem.W.Frag} : OpS K (rI0 h') (dI h) := by
  intro F S H x y vx vy z Q R dx dy e k
  unfold dI at e
  split at e
  · rename_i i j
    cases e
    exact ⟨i, j, dat_int.mp dx, dat_int.mp dy, k _ H R Keep.refl (hh K F S H i j)⟩
  · cases e
theorem hI {f : Int → Int → Int} : ∀ K F S H i j, Dat K F S H (.int (f i j)) (V.int (f i j)) := fun _ _ _ _ _ _ => dat_int.mpr rfl
theorem hB {f : Int → Int → Bool} : ∀ K F S H i j, Dat K F S H (.bl (f i j)) (V.bl (f i j)) := fun _ _ _ _ _ _ => dat_bl.mpr rfl
abbrev dSub := dI fun i j => .int (i - j)
theorem lp_sub (ha : LP X a f) (hb : LP X b g) : LP X (.BinOp a .Sub b pos) (pOp dSub f g) := lp_op op_sub (dI_ok hI) ha hb
abbrev dMod := dI2 (fun _ j => decide (0 < j)) fun i j => .int (i % j)
theorem lp_mod (ha : LP X a f) (hb : LP X b g) : LP X (.BinOp a .Mod b pos) (pOp dMod f g) := lp_op op_mod (dI2_ok (fun _ _ h => of_decide_eq_true h) hI) ha hb
abbrev dFdiv := dI2 (fun _ j => decide (0 < j ∧ j < 1073741824)) fun i j => .int (i / j)
theorem lp_fdiv (ha : LP X a f) (hb : LP X b g) : LP X (.BinOp a .FloorDiv b pos) (pOp dFdiv f g) := lp_op op_fdiv (dI2_ok (fun _ j h => of_decide_eq_true (p := 0 < j ∧ j < 1073741824) h) hI) ha hb
abbrev dPow := dI2 (fun i j => decide (0 ≤ j ∧ j ≤ 1000000 ∧ i.natAbs < 2 ^ 64)) fun i j => .int (i ^ j.toNat)
theorem lp_pow (ha : LP X a f) (hb : LP X b g) : LP X (.BinOp a .Pow b pos) (pOp dPow f g) := lp_op op_pow (dI2_ok (fun i j h => of_decide_eq_true (p := 0 ≤ j ∧ j ≤ 1000000 ∧ i.natAbs < 2 ^ 64) h) hI) ha hb
abbrev dShl := dI2 (fun i j => decide (0 ≤ j ∧ j ≤ 1000000 ∧ i.natAbs < 2 ^ 64)) fun i j => .int (i * 2 ^ j.toNat)
theorem lp_shl (ha : LP X a f) (hb : LP X b g) : LP X (.BinOp a .LShift b pos) (pOp dShl f g) := lp_op op_shl (dI2_ok (fun i j h => of_decide_eq_true (p := 0 ≤ j ∧ j ≤ 1000000 ∧ i.natAbs < 2 ^ 64) h) hI) ha hb
abbrev dShr := dI2 (fun _ j => decide (0 ≤ j)) fun i j => .int (i / 2 ^ j.toNat)
theorem lp_shr (ha : LP X a f) (hb : LP X b g) : LP X (.BinOp a .RShift b pos) (pOp dShr f g) := lp_op op_shr (dI2_ok (fun _ _ h => of_decide_eq_true h) hI) ha hb
abbrev dAnd := dI fun i j => .int (Builtin.bitAnd i j)
theorem lp_band (ha : LP X a f) (hb : LP X b g) : LP X (.BinOp a .BitAnd b pos) (pOp dAnd f g) := lp_op op_and (dI_ok hI) ha hb
abbrev dOr := dI fun i j => .int (Builtin.bitOr i j)
theorem lp_bor (ha : LP X a f) (hb : LP X b g) : LP X (.BinOp a .BitOr b pos) (pOp dOr f g) := lp_op op_or (dI_ok hI) ha hb
abbrev dXor := dI fun i j => .int (Builtin.bitXor i j)
theorem lp_bxor (ha : LP X a f) (hb : LP X b g) : LP X (.BinOp a .BitXor b pos) (pOp dXor f g) := lp_op op_xor (dI_ok hI) ha hb
/-! + of ints, texts, lists -/
def dAdd (S : Sto) (x y : Dt) : Option Dt := match x, y with
  | .int i, .int j => some (.int (i + j))
  | .str i, .str j => if i.length + j.length ≤ sizeLine then some (.str (i ++ j)) else none
  | .tup i, .tup j => if i.length + j.length ≤ sizeLine ∧ i.length ≠ 0 ∧ j.length ≠ 0 then some (.tup (i ++ j)) else none
  | x, y => (dLst S x).bind fun i => (dLst S y).bind fun j => if i.length + j.length ≤ sizeLine then some (.lst (i ++ j)) else none
theorem dAdd_ok {K : PySem.W.Frag} : OpS K (fun x y H Q => rI0 (fun i j => .int (i + j)) x y H Q ∨ ((fun x y H Q => ∃ i j, x = .str i ∧ y = .str j ∧ i.length + j.length ≤ sizeLine ∧ Q (.str (i ++ j)) H) x y H Q ∨ (rCatT K x y H Q ∨ rCat x y H Q))) dAdd := by
  intro F S H x y vx vy z Q R dx dy e k
  unfold dAdd at e
  split at e
  · rename_i i j
    cases e
    exact .inl ⟨i, j, dat_int.mp dx, dat_int.mp dy, k _ H R Keep.refl (dat_int.mpr rfl)⟩
  · rename_i i j
    split at e
    · rename_i hc
      cases e
      exact .inr (.inl ⟨i, j, dat_str.mp dx, dat_str.mp dy, hc, k _ H R Keep.refl (dat_str.mpr rfl)⟩)
    · cases e
  · rename_i i j
    split at e
    · rename_i hc
      cases e
      obtain ⟨p, vs, e1, i1, r1⟩ := dat_tup.mp dx
      obtain ⟨q, ws, e2, i2, r2⟩ := dat_tup.mp dy
      have l1 := r1.length
      have l2 := r2.length
      obtain ⟨c1, c2, c3⟩ := hc
      refine .inr (.inr (.inl ⟨p, q, vs, ws, e1, e2, SqT.of i1.1, SqT.of i2.1, ?_, by rw [l1, l2]; exact c1, ?_⟩))
      · intro z
        rw [z] at l1
        exact c2 l1.symm
      · exact ⟨fun z => by rw [z] at l2; exact absurd l2.symm c3, fun _ p hp => k _ _ (R.new hp) (R.kn hp) (dat_tup.mpr ⟨p, _, rfl, ⟨upd_same, R.free hp, R.nf hp⟩, Dats.keep (R.kn hp) _ (Dats.append r1 r2)⟩)⟩
    · cases e
  · cases hx : dLst S x with
    | none =>
      rw [hx] at e
      cases e
    | some i =>
      rw [hx, Option.bind_some] at e
      cases hy : dLst S y with
      | none =>
        rw [hy] at e
        cases e
      | some j =>
        rw [hy, Option.bind_some] at e
        split at e
        · rename_i hc
          cases e
          obtain ⟨p, vs, e1, i1, r1⟩ := dLst_ok R dx hx
          obtain ⟨q, ws, e2, i2, r2⟩ := dLst_ok R dy hy
          refine .inr (.inr (.inr ⟨p, q, vs, ws, e1, e2, i1, i2, by rw [r1.length, r2.length]; exact hc, fun p hp => ?_⟩))
          exact k _ _ (R.new hp) (R.kn hp) (dat_lst.mpr ⟨p, _, rfl, ⟨upd_same, R.free hp, R.nf hp⟩, Dats.keep (R.kn hp) _ (Dats.append r1 r2)⟩)
        · cases e
theorem lp_add (ha : LP X a f) (hb : LP X b g) : LP X (.BinOp a .Add b pos) (pOp dAdd f g) := lp_op (op_any op_add (op_any op_add_str (op_any op_catT op_cat))) dAdd_ok ha hb

/-! * of ints, lists times ints -/
def dMul (S : Sto) (x y : Dt) : Option Dt := match x, y with
  | .int i, .int j => if (-(2 ^ 64) < i ∧ i < 2 ^ 64) ∨ (-(2 ^ 64) < j ∧ j < 2 ^ 64) then some (.int (i * j)) else none
  | x, .int k => (dLst S x).bind fun i => if -(2 ^ 63) ≤ k ∧ k < 2 ^ 63 ∧ i.length * k.toNat ≤ sizeLine then some (.lst (List.replicate k.toNat i).flatten) else none
  | _, _ => none
theorem dats_rep {K : PySem.W.Frag} {F : Addr → Prop} {S : Sto} {H : Hp} {ds : List Dt} {vs : List V} (h : Dats K F S H ds vs) : ∀ n : Nat, Dats K F S H (List.replicate n ds).flatten (List.replicate n vs).flatten
  | 0 => Dats.nil
  | n + 1 => by
    rw [List.replicate_succ, List.replicate_succ, List.flatten_cons, List.flatten_cons]
    exact Dats.append h (dats_rep h n)

/-! comparisons of ints -/
abbrev dLt := dI fun i j => .bl (decide (i < j))
abbrev dLe := dI fun i j => .bl (decide (i ≤ j))
abbrev dGt := dI fun i j => .bl (decide (j < i))
abbrev dGe := dI fun i j => .bl (decide (j ≤ i))
theorem lpb_lt (ha : LP X a f) (hb : LP X b g) : LPB X (.Compare a [.Lt] [b] pos) (pB (pOp dLt f g)) := lpb_cmp op_lt (dI_ok hB) ha hb (nobehind _ (by decide) (by decide))
theorem lpb_le (ha : LP X a f) (hb : LP X b g) : LPB X (.Compare a [.LtE] [b] pos) (pB (pOp dLe f g)) := lpb_cmp op_le (dI_ok hB) ha hb (nobehind _ (by decide) (by decide))
theorem lpb_gt (ha : LP X a f) (hb : LP X b g) : LPB X (.Compare a [.Gt] [b] pos) (pB (pOp dGt f g)) := lpb_cmp op_gt (dI_ok hB) ha hb (nobehind _ (by decide) (by decide))
theorem lpb_ge (ha : LP X a f) (hb : LP X b g) : LPB X (.Compare a [.GtE] [b] pos) (pB (pOp dGe f g)) := lpb_cmp op_ge (dI_ok hB) ha hb (nobehind _ (by decide) (by decide))
theorem lp_lt (ha : LP X a f) (hb : LP X b g) : LP X (.Compare a [.Lt] [b] pos) (pOp dLt f g) := lp_cmp op_lt (dI_ok hB) ha hb (nobehind _ (by decide) (by decide))
theorem lp_le (ha : LP X a f) (hb : LP X b g) : LP X (.Compare a [.LtE] [b] pos) (pOp dLe f g) := lp_cmp op_le (dI_ok hB) ha hb (nobehind _ (by decide) (by decide))
theorem lp_gt (ha : LP X a f) (hb : LP X b g) : LP X (.Compare a [.Gt] [b] pos) (pOp dGt f g) := lp_cmp op_gt (dI_ok hB) ha hb (nobehind _ (by decide) (by decide))
theorem lp_ge (ha : LP X a f) (hb : LP X b g) : LP X (.Compare a [.GtE] [b] pos) (pOp dGe f g) := lp_cmp op_ge (dI_ok hB) ha hb (nobehind _ (by decide) (by decide))

/-! == , != -/
/-- == of scalars that the layer knows; none where it does not -/
def dEqS : Dt → Dt → Option Bool
  | .non, .non => some true
  | .non, .int _ => some false
  | .int _, .non => some false
  | .non, .bl _ => some false
  | .bl _, .non => some false
  | .non, .str _ => some false
  | .str _, .non => some false
  | .int i, .int j => some (decide (i = j))
  | .bl i, .bl j => some (decide (i = j))
  | .str i, .str j => some (decide (i = j))
  | .int _, .str _ => some false
  | .str _, .int _ => some false
  | .bl _, .str _ => some false
  | .str _, .bl _ => some false
  | _, _ => none
mutual
def toPy : Dt → Option PyData
  | .non => some .none
  | .bl b => some (.bool b)
  | .int i => some (.int i)
  | .str x => some (.str x)
  | .lst xs => (toPys xs).map .list
  | .tup xs => (toPys xs).map .tuple
  | _ => none
def toPys : List Dt → Option (List PyData)
  | [] => some []
  | x :: xs => (toPy x).bind fun d => (toPys xs).map (d :: ·)
end
mutual
theorem toPy_ok {K : PySem.W.Frag} {F : Addr → Prop} {S : Sto} {H : Hp} : ∀ (x : Dt) (d : PyData) (v : V), Dat K F S H x v → toPy x = some d → Dp K H v d
  | .non, d, v, h, e => by
    rw [toPy] at e
    cases e
    rw [dat_non.mp h]
    exact Dp.non
  | .bl b, d, v, h, e => by
    rw [toPy] at e
    cases e
    rw [dat_bl.mp h]
    exact Dp.bl b
  | .int i, d, v, h, e => by
    rw [toPy] at e
    cases e
    rw [dat_int.mp h]
    exact Dp.int i
  | .str x, d, v, h, e => by
    rw [toPy] at e
    cases e
    rw [dat_str.mp h]
    exact Dp.str x
  | .lst xs, d, v, h, e => by
    rw [toPy] at e
    cases q : toPys xs with
    | none =>
      rw [q] at e
      cases e
    | some ds =>
      rw [q] at e
      cases e
      obtain ⟨a, vs, e1, i, r⟩ := dat_lst.mp h
      rw [e1]
      exact Dp.lst (SqL.of i.1) (toPys_ok xs ds vs r q)
  | .tup xs, d, v, h, e => by
    rw [toPy] at e
    cases q : toPys xs with
    | none =>
      rw [q] at e
      cases e
    | some ds =>
      rw [q] at e
      cases e
      obtain ⟨a, vs, e1, i, r⟩ := dat_tup.mp h
      rw [e1]
      exact Dp.tup (SqT.of i.1) (toPys_ok xs ds vs r q)
  | .dic _ _, d, v, h, e => by
    rw [toPy] at e
    · cases e
    all_goals (intros; contradiction)
  | .adr _, d, v, h, e => by
    rw [toPy] at e
    · cases e
    all_goals (intros; contradiction)
  | .scr _, d, v, h, e => by
    rw [toPy] at e
    · cases e
    all_goals (intros; contradiction)
  | .exc _ _ _ _ _, d, v, h, e => by
    rw [toPy] at e
    · cases e
    all_goals (intros; contradiction)
theorem toPys_ok {K : PySem.W.Frag} {F : Addr → Prop} {S : Sto} {H : Hp} : ∀ (xs : List Dt) (ds : List PyData) (vs : List V), Dats K F S H xs vs → toPys xs = some ds → DpAll K H vs ds
  | [], ds, vs, h, e => by
    rw [toPys] at e
    cases e
    rw [dats_nil.mp h]
    exact DpAll.nil
  | x :: xs, ds, vs, h, e => by
    rw [toPys] at e
    obtain ⟨v, r, e1, h1, h2⟩ := dats_cons.mp h
    cases q : toPy x with
    | none =>
      rw [q] at e
      cases e
    | some d =>
      rw [q, Option.bind_some] at e
      cases q2 : toPys xs with
      | none =>
        rw [q2] at e
        cases e
      | some ds' =>
        rw [q2] at e
        cases e
        rw [e1]
        exact DpAll.cons (toPy_ok x d v h1 q) (toPys_ok xs ds' r h2 q2)
end
def pyOf (S : Sto) (d : Dt) : Option PyData := match d with
  | .adr _ => (dLst S d).bind fun xs => (toPys xs).map .list
  | d => toPy d
theorem pyOf_ok {K : PySem.W.Frag} {F : Addr → Prop} {S : Sto} {H : Hp} {d : Dt} {v : V} {p : PyData} (R : Rep K F S H) (h : Dat K F S H d v) (e : pyOf S d = some p) : Dp K H v p := by
  unfold pyOf at e
  split at e
  · rename_i a
    cases q : dLst S (.adr a) with
    | none =>
      rw [q] at e
      cases e
    | some xs =>
      rw [q, Option.bind_some] at e
      cases q2 : toPys xs with
      | none =>
        rw [q2] at e
        cases e
      | some ds =>
        rw [q2] at e
        cases e
        obtain ⟨a, vs, e1, i, r⟩ := dLst_ok R h q
        rw [e1]
        exact Dp.lst (SqL.of i) (toPys_ok xs ds vs r q2)
  · exact toPy_ok _ _ _ h e
def dEqB (S : Sto) (x y : Dt) : Option Bool := match dEqS x y with
  | some b => some b
  | none => (pyOf S x).bind fun d => (pyOf S y).bind fun e => if (SeqAt.shaped d && SeqAt.shaped e) = true then some (PyData.eqv d e) else none
def dEq (S : Sto) (x y : Dt) : Option Dt := (dEqB S x y).map .bl
def dNe (S : Sto) (x y : Dt) : Option Dt := (dEqB S x y).map fun b => .bl (!b)
theorem dEqS_ok {K : PySem.W.Frag} {F : Addr → Prop} {S : Sto} {H : Hp} {x y : Dt} {v w : V} {b : Bool} (h : Dat K F S H x v) (h' : Dat K F S H y w) (e : dEqS x y = some b) : scal v w = true ∧ decide (v = w) = b := by
  unfold dEqS at e
  split at e <;> first
    | (cases e; rw [dat_non.mp h, dat_non.mp h']; exact ⟨rfl, rfl⟩)
    | (cases e; rw [dat_non.mp h, dat_int.mp h']; exact ⟨rfl, rfl⟩)
    | (cases e; rw [dat_int.mp h, dat_non.mp h']; exact ⟨rfl, rfl⟩)
    | (cases e; rw [dat_non.mp h, dat_bl.mp h']; exact ⟨rfl, rfl⟩)
    | (cases e; rw [dat_bl.mp h, dat_non.mp h']; exact ⟨rfl, rfl⟩)
    | (cases e; rw [dat_non.mp h, dat_str.mp h']; exact ⟨rfl, rfl⟩)
    | (cases e; rw [dat_str.mp h, dat_non.mp h']; exact ⟨rfl, rfl⟩)
    | (cases e; rw [dat_int.mp h, dat_int.mp h']; exact ⟨rfl, by rw [dec_int, Bool.beq_eq_decide_eq]⟩)
    | (cases e; rw [dat_bl.mp h, dat_bl.mp h']; exact ⟨rfl, by rw [dec_bl, Bool.beq_eq_decide_eq]⟩)
    | (cases e; rw [dat_str.mp h, dat_str.mp h']; exact ⟨rfl, by rw [dec_str, Bool.beq_eq_decide_eq]⟩)
    | (cases e; rw [dat_int.mp h, dat_str.mp h']; exact ⟨rfl, rfl⟩)
    | (cases e; rw [dat_str.mp h, dat_int.mp h']; exact ⟨rfl, rfl⟩)
    | (cases e; rw [dat_bl.mp h, dat_str.mp h']; exact ⟨rfl, rfl⟩)
    | (cases e; rw [dat_str.mp h, dat_bl.mp h']; exact ⟨rfl, rfl⟩)
    | cases e
theorem dEqB_ok {K : PySem.W.Frag} {F : Addr → Prop} {S : Sto} {H : Hp} {x y : Dt} {v w : V} {b : Bool} (R : Rep K F S H) (h : Dat K F S H x v) (h' : Dat K F S H y w) (e : dEqB S x y = some b) :
    (scal v w = true ∧ decide (v = w) = b) ∨ ∃ d e, Dp K H v d ∧ Dp K H w e ∧ SeqAt.shaped d = true ∧ SeqAt.shaped e = true ∧ PyData.eqv d e = b := by
  unfold dEqB at e
  split at e
  · rename_i b' hb
    cases e
    exact .inl (dEqS_ok h h' hb)
  · cases q : pyOf S x with
    | none =>
      rw [q] at e
      cases e
    | some d =>
      rw [q, Option.bind_some] at e
      cases q2 : pyOf S y with
      | none =>
        rw [q2] at e
        cases e
      | some d' =>
        rw [q2, Option.bind_some] at e
        split at e
        · rename_i hc
          cases e
          obtain ⟨c1, c2⟩ := Bool.and_eq_true_iff.mp hc
          exact .inr ⟨d, d', pyOf_ok R h q, pyOf_ok R h' q2, c1, c2, rfl⟩
        · cases e
theorem dEq_ok {K : PySem.W.Frag} : OpS K (fun x y H Q => rEq x y H Q ∨ rEqD K x y H Q) dEq := by
  intro F S H x y vx vy z Q R dx dy e k
  unfold dEq at e
  cases q : dEqB S x y with
  | none =>
    rw [q] at e
    cases e
  | some b =>
    rw [q] at e
    cases e
    rcases dEqB_ok R dx dy q with ⟨h1, h2⟩ | ⟨d, e, h1, h2, h3, h4, h5⟩
    · exact .inl ⟨h1, by rw [h2]; exact k _ H R Keep.refl (dat_bl.mpr rfl)⟩
    · exact .inr ⟨d, e, h1, h2, h3, h4, by rw [h5]; exact k _ H R Keep.refl (dat_bl.mpr rfl)⟩
theorem dNe_ok {K : PySem.W.Frag} : OpS K (fun x y H Q => rNe x y H Q ∨ rNeD K x y H Q) dNe := by
  intro F S H x y vx vy z Q R dx dy e k
  unfold dNe at e
  cases q : dEqB S x y with
  | none =>
    rw [q] at e
    cases e
  | some b =>
    rw [q] at e
    cases e
    rcases dEqB_ok R dx dy q with ⟨h1, h2⟩ | ⟨d, e, h1, h2, h3, h4, h5⟩
    · exact .inl ⟨h1, by rw [h2]; exact k _ H R Keep.refl (dat_bl.mpr rfl)⟩
    · exact .inr ⟨d, e, h1, h2, h3, h4, by rw [h5]; exact k _ H R Keep.refl (dat_bl.mpr rfl)⟩
theorem lp_eq (hu : X.A.units + 64 < cLine) (ha : LP X a f) (hb : LP X b g) : LP X (.Compare a [.Eq] [b] pos) (pOp dEq f g) := lp_cmp (op_any op_eq (op_eqD hu)) dEq_ok ha hb (nobehind _ (by decide) (by decide))
theorem lp_ne (hu : X.A.units + 64 < cLine) (ha : LP X a f) (hb : LP X b g) : LP X (.Compare a [.NotEq] [b] pos) (pOp dNe f g) := lp_cmp (op_any op_ne (op_neD hu)) dNe_ok ha hb (nobehind _ (by decide) (by decide))
theorem lpb_eq (hu : X.A.units + 64 < cLine) (ha : LP X a f) (hb : LP X b g) : LPB X (.Compare a [.Eq] [b] pos) (pB (pOp dEq f g)) := lpb_cmp (op_any op_eq (op_eqD hu)) dEq_ok ha hb (nobehind _ (by decide) (by decide))
theorem lpb_ne (hu : X.A.units + 64 < cLine) (ha : LP X a f) (hb : LP X b g) : LPB X (.Compare a [.NotEq] [b] pos) (pB (pOp dNe f g)) := lpb_cmp (op_any op_ne (op_neD hu)) dNe_ok ha hb (nobehind _ (by decide) (by decide))

/-! is None -/
def isN : Dt → Bool
  | .non => true
  | _ => false
theorem isN_ok {K : PySem.W.Frag} {F : Addr → Prop} {S : Sto} {H : Hp} {x : Dt} {v : V} (h : Dat K F S H x v) : decide (v = .non) = isN x := by
  cases x with
  | non =>
    rw [dat_non.mp h]
    rfl
  | bl b =>
    rw [dat_bl.mp h]
    rfl
  | int i =>
    rw [dat_int.mp h]
    rfl
  | str i =>
    rw [dat_str.mp h]
    rfl
  | adr i =>
    rw [dat_adr.mp h]
    rfl
  | lst i =>
    obtain ⟨a, _, e, _⟩ := dat_lst.mp h
    rw [e]
    rfl
  | tup i =>
    obtain ⟨a, _, e, _⟩ := dat_tup.mp h
    rw [e]
    rfl
  | dic i j =>
    obtain ⟨a, _, e, _⟩ := dat_dic.mp h
    rw [e]
    rfl
  | scr i =>
    obtain ⟨a, e, _⟩ := dat_scr.mp h
    rw [e]
    rfl
  | exc a dd C ns xs =>
    obtain ⟨e, _⟩ := dat_exc.mp h
    rw [e]
    rfl
def pUn (o : Sto → Dt → Option Dt) (f : PX) : PX := fun ds S => (f ds S).bind (o S)
theorem lowP_un {K : PySem.W.Frag} {o : Sto → Dt → Option Dt} {σ : L2.St} {H : Hp} {Q : VK} (q : lowP K (pUn o f) σ H Q) :
    lowP K f σ H fun v H1 => ∃ F S d z, Rep K F S H1 ∧ Dat K F S H1 d v ∧ o S d = some z ∧ ∀ w H', Rep K F S H' → Keep F S H1 S H' → Dat K F S H' z w → Q w H' := by
  obtain ⟨F, ds, S, d, R, sl, hd, k⟩ := q
  unfold pUn at hd
  cases hx : f ds S with
  | none =>
    rw [hx] at hd
    cases hd
  | some x =>
    rw [hx, Option.bind_some] at hd
    exact ⟨F, ds, S, x, R, sl, hx, fun v H1 R1 k1 d1 => ⟨F, S, x, d, R1, d1, hd, fun w H' R' k' dw => k w H' R' (k1.trans k') dw⟩⟩
def oIsN : Sto → Dt → Option Dt := fun _ d => some (.bl (isN d))
def oNotN : Sto → Dt → Option Dt := fun _ d => some (.bl (!isN d))
theorem isN_run {σ : L2.St} {H : Hp} {Q : VK} {K : PySem.W.Frag} (h : lowP K (pUn oIsN f) σ H Q) : tIsN (lowP K f) σ H Q := by
  refine lowP_imp (lowP_un h) ?_
  rintro v H1 ⟨F, S, d, z, R, dv, e, k⟩
  cases e
  rw [isN_ok dv]
  exact k _ H1 R Keep.refl (dat_bl.mpr rfl)
theorem notN_run {σ : L2.St} {H : Hp} {Q : VK} {K : PySem.W.Frag} (h : lowP K (pUn oNotN f) σ H Q) : tNotN (lowP K f) σ H Q := by
  refine lowP_imp (lowP_un h) ?_
  rintro v H1 ⟨F, S, d, z, R, dv, e, k⟩
  cases e
  rw [isN_ok dv]
  exact k _ H1 R Keep.refl (dat_bl.mpr rfl)
theorem lpB_of {K : PySem.W.Frag} {σ : L2.St} {H : Hp} {Q : Bool → Hp → Prop} (h : lowPB K (pB f) σ H Q) : lowP K f σ H fun v H1 => ∃ c, v = .bl c ∧ Q c H1 := by
  obtain ⟨F, ds, S, b, R, sl, hd, k⟩ := h
  exact ⟨F, ds, S, .bl b, R, sl, pB_some hd, fun v H' R' k' dv => ⟨b, dat_bl.mp dv, k H' R' k'⟩⟩
theorem lp_isN {j : Nat} {pos' : Pos} (ha : LP X a f) : LP X (.Compare a [.Is] [.Constant .none j pos'] pos) (pUn oIsN f) := pe_weak (pe_cmp (pc_isN ha)) fun _ _ _ h => isN_run h
theorem lp_notN {j : Nat} {pos' : Pos} (ha : LP X a f) : LP X (.Compare a [.IsNot] [.Constant .none j pos'] pos) (pUn oNotN f) := pe_weak (pe_cmp (pc_notN ha)) fun _ _ _ h => notN_run h
theorem lpb_isN {j : Nat} {pos' : Pos} (ha : LP X a f) : LPB X (.Compare a [.Is] [.Constant .none j pos'] pos) (pB (pUn oIsN f)) := pt_weak (pt_cmp (pc_isN ha)) fun σ H Q h => isN_run (lpB_of h)
theorem lpb_notN {j : Nat} {pos' : Pos} (ha : LP X a f) : LPB X (.Compare a [.IsNot] [.Constant .none j pos'] pos) (pB (pUn oNotN f)) := pt_weak (pt_cmp (pc_notN ha)) fun σ H Q h => notN_run (lpB_of h)

/-! truth -/
def dTru (S : Sto) : Dt → Option Bool
  | .non => some false
  | .bl b => some b
  | .int i => some (i != 0)
  | .str x => if x.length ≤ sizeLine then some ((x.length : Int) != 0) else none
  | .lst xs => some (!xs.isEmpty)
  | .tup xs => some (!xs.isEmpty)
  | .dic ks _ => some (!ks.isEmpty)
  | .adr a => match S a with
    | some (.lst xs) => some (!xs.isEmpty)
    | some (.dic ks _) => some (!ks.isEmpty)
    | _ => none
  | .scr _ => none
  | .exc _ _ _ _ _ => none
theorem isEmpty_len {α β : Type} {xs : List α} {ys : List β} (h : xs.length = ys.length) : xs.isEmpty = ys.isEmpty := by
  cases xs <;> cases ys <;> first | rfl | simp at h
theorem isEmpty_zip {xs : List Key} {ys : List V} {zs : List Dt} (h : xs.length = zs.length) (h' : ys.length = zs.length) : (xs.zip ys).isEmpty = xs.isEmpty := isEmpty_len (by rw [List.length_zip]; omega)
theorem dTru_ok {K : PySem.W.Frag} {F : Addr → Prop} {S : Sto} {H : Hp} {x : Dt} {v : V} {b : Bool} (R : Rep K F S H) (h : Dat K F S H x v) (e : dTru S x = some b) : TruV K v H b := by
  cases x with
  | non =>
    cases e
    rw [dat_non.mp h]
    exact rfl
  | bl c =>
    cases e
    rw [dat_bl.mp h]
    exact rfl
  | int i =>
    cases e
    rw [dat_int.mp h]
    exact rfl
  | str i =>
    have e' : (if i.length ≤ sizeLine then some ((i.length : Int) != 0) else none) = some b := e
    split at e'
    · rename_i hl
      cases e'
      rw [dat_str.mp h]
      exact ⟨hl, rfl⟩
    · cases e'
  | lst xs =>
    cases e
    obtain ⟨a, vs, e1, i, r⟩ := dat_lst.mp h
    rw [e1]
    exact .inl ⟨vs, SqL.of i.1, by rw [isEmpty_len r.length]⟩
  | tup xs =>
    cases e
    obtain ⟨a, vs, e1, i, r⟩ := dat_tup.mp h
    rw [e1]
    exact .inr (.inl ⟨vs, SqT.of i.1, by rw [isEmpty_len r.length]⟩)
  | dic ks xs =>
    cases e
    obtain ⟨a, vs, e1, i, l, r⟩ := dat_dic.mp h
    rw [e1]
    exact .inr (.inr ⟨_, i.1, by rw [isEmpty_zip l r.length]⟩)
  | adr a =>
    rw [dat_adr.mp h]
    have e' : (match S a with | some (.lst xs) => some (!xs.isEmpty) | some (.dic ks _) => some (!ks.isEmpty) | _ => none) = some b := e
    split at e'
    · rename_i xs hs
      cases e'
      obtain ⟨vs, h1, h2⟩ := R.mo hs
      exact .inl ⟨vs, SqL.of h1, by rw [isEmpty_len h2.length]⟩
    · rename_i ks xs hs
      cases e'
      obtain ⟨vs, h1, h2, h3⟩ := R.mo hs
      exact .inr (.inr ⟨_, h1, by rw [isEmpty_zip h2 h3.length]⟩)
    · cases e'
  | scr i => cases e
  | exc a dd C ns xs => cases e
def pT (f : PX) : PB := fun ds S => (f ds S).bind (dTru S)
theorem lowT_of {K : PySem.W.Frag} {σ : L2.St} {H : Hp} {Q : Bool → Hp → Prop} (h : lowPB K (pT f) σ H Q) : lowP K f σ H fun v H1 => ∃ F S d b, Rep K F S H1 ∧ Dat K F S H1 d v ∧ dTru S d = some b ∧ Q b H1 := by
  obtain ⟨F, ds, S, b, R, sl, hd, k⟩ := h
  unfold pT at hd
  cases hx : f ds S with
  | none =>
    rw [hx] at hd
    cases hd
  | some x =>
    rw [hx, Option.bind_some] at hd
    exact ⟨F, ds, S, x, R, sl, hx, fun v H1 R1 k1 d1 => ⟨F, S, x, b, R1, d1, hd, k H1 R1 k1⟩⟩
theorem lpb_tru (ha : LP X a f) (he : ∀ whole, isTrue a X.env whole = (do let v ← whole; standAt a.pos; holding [v] (truthy v)) := by intro _; rfl) : LPB X a (pT f) := pt_weak (pt_truth ha he) fun σ H Q h => by
  refine lowP_imp (lowT_of h) ?_
  rintro v H1 ⟨F, S, d, b, R, dv, e, q⟩
  exact ⟨b, dTru_ok R dv e, q⟩

/-! and, or, not -/
def bAnd (p q : PB) : PB := fun ds S => match p ds S with
  | some true => q ds S
  | some false => some false
  | none => none
def bOr (p q : PB) : PB := fun ds S => match p ds S with
  | some true => some true
  | some false => q ds S
  | none => none
def bNot (p : PB) : PB := fun ds S => (p ds S).map (!·)
/-- a chain of and, or -/
def LPW (X : Cx) (e : Expr) (f : PB) : Prop := PW X e (lowPB X.K f)
theorem LPW.tst (h : LPW X a p) : LPB X a p := PW.pt h
theorem lpw_and1 (ha : LPB X a p) : LPW X (.BoolOp .And [a] pos) p := pw_and1 ha
theorem lpw_or1 (ha : LPB X a p) : LPW X (.BoolOp .Or [a] pos) p := pw_or1 ha
theorem lpw_and {rest : List Expr} (ha : LPB X a p) (hb : LPW X (.BoolOp .And (b :: rest) pos) q) : LPW X (.BoolOp .And (a :: b :: rest) pos) (bAnd p q) := pw_weak (pw_and ha hb) fun σ H Q ⟨F, ds, S, d, R, sl, hd, k⟩ => by
  unfold bAnd at hd
  split at hd
  · rename_i h1
    exact ⟨F, ds, S, true, R, sl, h1, fun H1 R1 k1 => iteT ⟨F, ds, S, d, R1, sl.keep k1, hd, fun H2 R2 k2 => k H2 R2 (k1.trans k2)⟩⟩
  · rename_i h1
    cases hd
    exact ⟨F, ds, S, false, R, sl, h1, fun H1 R1 k1 => iteF (k H1 R1 k1)⟩
  · cases hd
theorem lpw_or {rest : List Expr} (ha : LPB X a p) (hb : LPW X (.BoolOp .Or (b :: rest) pos) q) : LPW X (.BoolOp .Or (a :: b :: rest) pos) (bOr p q) := pw_weak (pw_or ha hb) fun σ H Q ⟨F, ds, S, d, R, sl, hd, k⟩ => by
  unfold bOr at hd
  split at hd
  · rename_i h1
    cases hd
    exact ⟨F, ds, S, true, R, sl, h1, fun H1 R1 k1 => iteT (k H1 R1 k1)⟩
  · rename_i h1
    exact ⟨F, ds, S, false, R, sl, h1, fun H1 R1 k1 => iteF ⟨F, ds, S, d, R1, sl.keep k1, hd, fun H2 R2 k2 => k H2 R2 (k1.trans k2)⟩⟩
  · cases hd
theorem lpb_not (ha : LPB X a p) : LPB X (.UnaryOp .Not a pos) (bNot p) := pt_weak (pt_not ha) fun σ H Q ⟨F, ds, S, d, R, sl, hd, k⟩ => by
  unfold bNot at hd
  cases h1 : p ds S with
  | none =>
    rw [h1] at hd
    cases hd
  | some c =>
    rw [h1] at hd
    cases hd
    exact ⟨F, ds, S, c, R, sl, h1, fun H1 R1 k1 => k H1 R1 k1⟩
/-! .. as values -/
def vAnd (f g : PX) : PX := fun ds S => (f ds S).bind fun x => match dTru S x with
  | some true => g ds S
  | some false => some x
  | none => none
def vOr (f g : PX) : PX := fun ds S => (f ds S).bind fun x => match dTru S x with
  | some true => some x
  | some false => g ds S
  | none => none
def vNot (f : PX) : PX := fun ds S => (f ds S).bind fun x => (dTru S x).map fun b => .bl (!b)
theorem lp_one {op : BoolOp} (h : LP X a f) : LP X (.BoolOp op [a] pos) f := pe_one h
def pIf (c : PB) (f g : PX) : PX := fun ds S => match c ds S with
  | some true => f ds S
  | some false => g ds S
  | none => none
theorem lp_ifExp (hc : LPB X c p) (ha : LP X a f) (hb : LP X b g) : LP X (.IfExp c a b pos) (pIf p f g) := pe_weak (pe_ifExp hc ha hb) fun σ H Q ⟨F, ds, S, d, R, sl, hd, k⟩ => by
  unfold pIf at hd
  split at hd
  · rename_i h1
    exact ⟨F, ds, S, true, R, sl, h1, fun H1 R1 k1 => iteT ⟨F, ds, S, d, R1, sl.keep k1, hd, fun v H2 R2 k2 dv => k v H2 R2 (k1.trans k2) dv⟩⟩
  · rename_i h1
    exact ⟨F, ds, S, false, R, sl, h1, fun H1 R1 k1 => iteF ⟨F, ds, S, d, R1, sl.keep k1, hd, fun v H2 R2 k2 dv => k v H2 R2 (k1.trans k2) dv⟩⟩
  · cases hd
end
end Ax
set_option maxRecDepth 100000
set_option maxHeartbeats 4000000
/-! Ax: pure expressions, further. -/
namespace Ax
open PySem PySem.Spec PyProof.Rows L2
section
variable {X : Cx} {e a b c o : Expr} {es rest : List Expr} {pos : Pos} {f g : PX} {p q : PB}
theorem lp_and (ha : LP X a f) (hb : LP X (.BoolOp .And (b :: rest) pos) g) : LP X (.BoolOp .And (a :: b :: rest) pos) (vAnd f g) := pe_weak (pe_andT ha hb) fun σ H Q ⟨F, ds, S, d, R, sl, hd, k⟩ => by
  unfold vAnd at hd
  cases hx : f ds S with
  | none =>
    rw [hx] at hd
    cases hd
  | some x =>
    rw [hx, Option.bind_some] at hd
    refine ⟨F, ds, S, x, R, sl, hx, fun v H1 R1 k1 d1 => ?_⟩
    split at hd
    · rename_i h1
      exact ⟨true, dTru_ok R1 d1 h1, iteT ⟨F, ds, S, d, R1, sl.keep k1, hd, fun w H2 R2 k2 dw => k w H2 R2 (k1.trans k2) dw⟩⟩
    · rename_i h1
      cases hd
      exact ⟨false, dTru_ok R1 d1 h1, iteF (k v H1 R1 k1 d1)⟩
    · cases hd
theorem lp_or (ha : LP X a f) (hb : LP X (.BoolOp .Or (b :: rest) pos) g) : LP X (.BoolOp .Or (a :: b :: rest) pos) (vOr f g) := pe_weak (pe_orT ha hb) fun σ H Q ⟨F, ds, S, d, R, sl, hd, k⟩ => by
  unfold vOr at hd
  cases hx : f ds S with
  | none =>
    rw [hx] at hd
    cases hd
  | some x =>
    rw [hx, Option.bind_some] at hd
    refine ⟨F, ds, S, x, R, sl, hx, fun v H1 R1 k1 d1 => ?_⟩
    split at hd
    · rename_i h1
      cases hd
      exact ⟨true, dTru_ok R1 d1 h1, iteT (k v H1 R1 k1 d1)⟩
    · rename_i h1
      exact ⟨false, dTru_ok R1 d1 h1, iteF ⟨F, ds, S, d, R1, sl.keep k1, hd, fun w H2 R2 k2 dw => k w H2 R2 (k1.trans k2) dw⟩⟩
    · cases hd
theorem lp_not (ha : LP X a f) : LP X (.UnaryOp .Not a pos) (vNot f) := pe_weak (pe_notT ha) fun σ H Q ⟨F, ds, S, d, R, sl, hd, k⟩ => by
  unfold vNot at hd
  cases hx : f ds S with
  | none =>
    rw [hx] at hd
    cases hd
  | some x =>
    rw [hx, Option.bind_some] at hd
    refine ⟨F, ds, S, x, R, sl, hx, fun v H1 R1 k1 d1 => ?_⟩
    cases h1 : dTru S x with
    | none =>
      rw [h1] at hd
      cases hd
    | some c =>
      rw [h1] at hd
      cases hd
      exact ⟨c, dTru_ok R1 d1 h1, k _ H1 R1 k1 (dat_bl.mpr rfl)⟩
theorem lp_neg (ha : LP X a f) : LP X (.UnaryOp .USub a pos) (pUn (fun _ d => match d with | .int i => some (.int (-i)) | _ => none) f) := pe_weak (pe_un un_neg ha) fun σ H Q h => by
  refine lowP_imp (lowP_un h) ?_
  rintro v H1 ⟨F, S, d, z, R, dv, e, k⟩
  split at e
  · rename_i i
    cases e
    exact ⟨i, dat_int.mp dv, k _ H1 R Keep.refl (dat_int.mpr rfl)⟩
  · cases e

/-! ### arguments, displays -/
def aNil : PL := fun _ _ => some []
def aCons (f : PX) (g : PL) : PL := fun ds S => (f ds S).bind fun x => (g ds S).map (x :: ·)
variable {fa : PL}
theorem lpa_nil : LPA X [] aNil := pa_weak pa_nil fun σ H Q ⟨F, ds, S, d, R, sl, hd, k⟩ => by
  cases hd
  exact k _ H R Keep.refl Dats.nil
theorem lpa_cons (ha : LP X e f) (hr : LPA X es fa) (hs : starEach (e :: es) X.env = (false, eval e X.env) :: starEach es X.env := by rfl) : LPA X (e :: es) (aCons f fa) := pa_weak (pa_cons ha hr hs) fun σ H Q ⟨F, ds, S, d, R, sl, hd, k⟩ => by
  unfold aCons at hd
  cases hx : f ds S with
  | none =>
    rw [hx] at hd
    cases hd
  | some x =>
    rw [hx, Option.bind_some] at hd
    cases hy : fa ds S with
    | none =>
      rw [hy] at hd
      cases hd
    | some ys =>
      rw [hy] at hd
      cases hd
      exact ⟨F, ds, S, x, R, sl, hx, fun v H1 R1 k1 d1 => ⟨F, ds, S, ys, R1, sl.keep k1, hy, fun vs H2 R2 k2 d2 => k (v :: vs) H2 R2 (k1.trans k2) (Dats.cons (Dat.keep k2 _ d1) d2)⟩⟩
theorem small_line {n : Nat} (h : n ≤ 1000) : n ≤ sizeLine := Nat.le_trans h (by rw [sizeLine_eq]; decide)
def pLst (fa : PL) : PX := fun ds S => (fa ds S).bind fun xs => if xs.length ≤ 1000 then some (.lst xs) else none
def pTup (fa : PL) : PX := fun ds S => (fa ds S).bind fun xs => if xs.length ≤ 1000 then some (.tup xs) else none
theorem lp_lst (h : LPA X es fa) : LP X (.List es pos) (pLst fa) := pe_weak (pe_lst h) fun σ H Q ⟨F, ds, S, d, R, sl, hd, k⟩ => by
  unfold pLst at hd
  cases hx : fa ds S with
  | none =>
    rw [hx] at hd
    cases hd
  | some xs =>
    rw [hx, Option.bind_some] at hd
    split at hd
    · rename_i hl
      cases hd
      exact ⟨F, ds, S, xs, R, sl, hx, fun vs H1 R1 k1 d1 => ⟨by rw [d1.length]; exact small_line hl, fun p hp => k _ _ (R1.new hp) (k1.trans (R1.kn hp)) (dat_lst.mpr ⟨p, vs, rfl, ⟨upd_same, R1.free hp, R1.nf hp⟩, Dats.keep (R1.kn hp) _ d1⟩)⟩⟩
    · cases hd
theorem lp_tup {x1} (h : LPA X es fa) : LP X (.Tuple es x1 pos) (pTup fa) := pe_weak (pe_tup h) fun σ H Q ⟨F, ds, S, d, R, sl, hd, k⟩ => by
  unfold pTup at hd
  cases hx : fa ds S with
  | none =>
    rw [hx] at hd
    cases hd
  | some xs =>
    rw [hx, Option.bind_some] at hd
    split at hd
    · rename_i hl
      cases hd
      exact ⟨F, ds, S, xs, R, sl, hx, fun vs H1 R1 k1 d1 => ⟨by rw [d1.length]; exact small_line hl, fun p hp => k _ _ (R1.new hp) (k1.trans (R1.kn hp)) (dat_tup.mpr ⟨p, vs, rfl, ⟨upd_same, R1.free hp, R1.nf hp⟩, Dats.keep (R1.kn hp) _ d1⟩)⟩⟩
    · cases hd

/-! ### subscripts -/
theorem pe_both {t u : TE} (h1 : PE X e t) (h2 : PE X e u) : PE X e (fun σ H Q => t σ H Q ∨ u σ H Q) := ⟨fun pins s σ H Q I h => h.elim (h1.run pins s σ H Q I) (h2.run pins s σ H Q I)⟩
/-- xs[i], t[i] -/
def dIx (S : Sto) (x y : Dt) : Option Dt := match y with
  | .int i => match dLst S x with
    | some xs => atI xs i
    | none => (dTup x).bind fun xs => atI xs i
  | _ => none
theorem atI_get {K : PySem.W.Frag} {F : Addr → Prop} {S : Sto} {H : Hp} {xs : List Dt} {vs : List V} {i : Int} {d : Dt} (h : Dats K F S H xs vs) (e : atI xs i = some d) : ∃ v, atI vs i = some v ∧ Dat K F S H d v := by
  unfold atI at e ⊢
  rw [h.length]
  cases q : ixN xs.length i with
  | none =>
    rw [q] at e
    cases e
  | some j =>
    rw [q, Option.bind_some] at e
    exact h.get e
theorem dIx_ok {K : PySem.W.Frag} : OpS K (rIx K) dIx := by
  intro F S H x y vx vy z Q R dx dy e k
  unfold dIx at e
  split at e
  · rename_i i
    split at e
    · rename_i xs hx
      obtain ⟨a, vs, e1, h1, r1⟩ := dLst_ok R dx hx
      obtain ⟨v, h2, h3⟩ := atI_get r1 e
      exact .inl ⟨a, vs, i, v, e1, dat_int.mp dy, SqL.of h1, h2, k _ H R Keep.refl h3⟩
    · cases hx : dTup x with
      | none =>
        rw [hx] at e
        cases e
      | some xs =>
        rw [hx, Option.bind_some] at e
        obtain ⟨a, vs, e1, h1, r1⟩ := dTup_ok dx hx
        obtain ⟨v, h2, h3⟩ := atI_get r1 e
        exact .inr (.inl ⟨a, vs, i, v, e1, dat_int.mp dy, SqT.of h1.1, h2, k _ H R Keep.refl h3⟩)
  · cases e
theorem lp_ix (ha : LP X a f) (hb : LP X b g) (hs : PlainIx b := by exact fun _ _ => rfl) : LP X (.Subscript a b pos) (pOp dIx f g) := pe_weak (pe_ix ix_seq ha hb hs) fun _ _ _ h => op_low dIx_ok h
/-! dicts of known keys -/
theorem zip_find {α : Type} : ∀ {ks : List Key} {vs : List α} {i : Nat} {k : Key} {v : α}, ks.Nodup → ks[i]? = some k → vs[i]? = some v → ((ks.zip vs).find? fun kv => decide (kv.1 = k)) = some (k, v)
  | [], vs, i, k, v, _, h, _ => by simp at h
  | k' :: ks, [], i, k, v, _, _, h => by simp at h
  | k' :: ks, w :: vs, 0, k, v, _, h, h' => by
    simp at h h'
    subst h
    subst h'
    rw [List.zip_cons_cons, List.find?_cons]
    simp
  | k' :: ks, w :: vs, i + 1, k, v, nd, h, h' => by
    obtain ⟨n1, n2⟩ := List.nodup_cons.mp nd
    rw [List.zip_cons_cons, List.find?_cons]
    have hk : ks[i]? = some k := by simpa using h
    have ne : ¬ k' = k := fun z => n1 (by rw [z]; exact List.mem_of_getElem? hk)
    have e : decide ((k', w).1 = k) = false := decide_eq_false ne
    rw [e]
    exact zip_find n2 hk (by simpa using h')
theorem valV_zip {ks : List Key} {vs : List V} {i : Nat} {k : Key} {v : V} (nd : ks.Nodup) (h : ks[i]? = some k) (h' : vs[i]? = some v) : valV (ks.zip vs) k = some v := by
  unfold valV
  rw [zip_find nd h h']
  rfl
def dAt (ks : List Key) (i : Nat) (S : Sto) (x : Dt) : Option Dt := (dDic S x).bind fun kx => if kx.1 = ks then kx.2[i]? else none
theorem lp_key {ks : List Key} {i : Nat} {x : Str} {j : Nat} {p2 : Pos} (nd : ks.Nodup) (hu : X.A.units + 1 < cLine) (ho : LP X o f) (hk : ks[i]? = some (Sum.inr x) := by rfl) (hs : NoSl (.Constant (.str x) j p2) := by exact fun _ _ => rfl) :
    LP X (.Subscript o (.Constant (.str x) j p2) pos) (pUn (dAt ks i) f) := pe_weak (pe_dget hu ho (pe_str (x := x)) hs) fun σ H Q h => by
  refine lowP_imp (lowP_un h) ?_
  rintro v H1 ⟨F, S, d, z, R, dv, e, k⟩
  unfold dAt at e
  cases hx : dDic S d with
  | none =>
    rw [hx] at e
    cases e
  | some kx =>
    rw [hx, Option.bind_some] at e
    split at e
    · rename_i hks
      obtain ⟨a, vs, e1, h1, l, r⟩ := dDic_ok (ks := kx.1) (xs := kx.2) R dv hx
      obtain ⟨w, h2, h3⟩ := r.get e
      rw [hks] at h1
      refine ⟨a, w, e1, ?_, k _ H1 R Keep.refl h3⟩
      have q := DGet.k (k := Sum.inr x) h1
      rw [valV_zip nd hk h2] at q
      exact q
    · cases e

/-! ### attributes -/
structure KOk (K : PySem.W.Frag) (k : Kls) : Prop where
  cl : Cls K k.addr
  nd : k.names.Nodup
  na : ∀ x ∈ k.names, NoAttr K k.addr x
  sz : k.names.length < 900
def dFld (k : Kls) (i : Nat) (S : Sto) (x : Dt) : Option Dt := match x with
  | .adr a => match S a with
    | some (.ins k' fs) => if k' = k then fs[i]? else none
    | _ => none
  | _ => none
theorem zip_look {α : Type} : ∀ {ks : List Str} {vs : List α} {i : Nat} {k : Str} {v : α}, ks.Nodup → ks[i]? = some k → vs[i]? = some v → (ks.zip vs).lookup k = some v
  | [], vs, i, k, v, _, h, _ => by simp at h
  | k' :: ks, [], i, k, v, _, _, h => by simp at h
  | k' :: ks, w :: vs, 0, k, v, _, h, h' => by
    simp at h h'
    subst h
    subst h'
    rw [List.zip_cons_cons]
    simp [List.lookup]
  | k' :: ks, w :: vs, i + 1, k, v, nd, h, h' => by
    obtain ⟨n1, n2⟩ := List.nodup_cons.mp nd
    have hk : ks[i]? = some k := by simpa using h
    have ne : (k == k') = false := by
      rw [beq_eq_false_iff_ne]
      intro z
      exact n1 (by rw [← z]; exact List.mem_of_getElem? hk)
    rw [List.zip_cons_cons]
    simp only [List.lookup, ne]
    exact zip_look n2 hk (by simpa using h')
theorem zip_no {α : Type} : ∀ {ks : List Str} {vs : List α} {k : Str}, ¬ k ∈ ks → (ks.zip vs).lookup k = none
  | [], vs, k, _ => by simp
  | k' :: ks, [], k, _ => by simp
  | k' :: ks, w :: vs, k, h => by
    have ne : (k == k') = false := by
      rw [beq_eq_false_iff_ne]
      intro z
      exact h (by rw [z]; exact List.mem_cons_self)
    rw [List.zip_cons_cons]
    simp only [List.lookup, ne]
    exact zip_no fun z => h (List.mem_cons_of_mem _ z)
theorem dFld_ok {K : PySem.W.Frag} {F : Addr → Prop} {S : Sto} {H : Hp} {k : Kls} {i : Nat} {x z : Dt} {v : V} (R : Rep K F S H) (h : Dat K F S H x v) (e : dFld k i S x = some z) :
    ∃ a fs dx vs w, x = .adr a ∧ v = .ref a ∧ S a = some (.ins k fs) ∧ H a = some (.ins k.addr dx (k.names.zip vs)) ∧ Dats K F S H fs vs ∧ vs[i]? = some w ∧ Dat K F S H z w := by
  unfold dFld at e
  split at e
  · rename_i a
    split at e
    · rename_i k' fs hs
      split at e
      · rename_i hk
        subst hk
        obtain ⟨dx, vs, h1, h2, h3⟩ := R.mo hs
        obtain ⟨w, h4, h5⟩ := h3.get e
        exact ⟨a, fs, dx, vs, w, rfl, dat_adr.mp h, hs, h1, h3, h4, h5⟩
      · cases e
    · cases e
  · cases e
theorem lp_fld {k : Kls} {i : Nat} {x : Str} (hk : KOk X.K k) (ha : LP X a f) (hi : k.names[i]? = some x := by rfl) (hb : attributeBase a x X.env (eval a X.env) = eval a X.env := by rfl) : LP X (.Attribute a x pos) (pUn (dFld k i) f) :=
  pe_weak (pe_fld ha hb) fun σ H Q h => by
  refine lowP_imp (lowP_un h) ?_
  rintro v H1 ⟨F, S, d, z, R, dv, e, q⟩
  obtain ⟨p, fs, dx, vs, w, e0, e1, h1, h2, h3, h4, h5⟩ := dFld_ok R dv e
  exact ⟨p, k.addr, dx, _, w, e1, h2, hk.cl, hk.na x (List.mem_of_getElem? hi), zip_look hk.nd hi h4, q _ H1 R Keep.refl h5⟩

/-! ### built-ins by values -/
def CallS (K : PySem.W.Frag) (r : List V → Hp → VK → Prop) (o : Sto → List Dt → Option Dt) : Prop := ∀ F S H xs vs z Q, Rep K F S H → Dats K F S H xs vs → o S xs = some z → (∀ v H', Rep K F S H' → Keep F S H S H' → Dat K F S H' z v → Q v H') → r vs H Q
def pCall (o : Sto → List Dt → Option Dt) (fa : PL) : PX := fun ds S => (fa ds S).bind (o S)
theorem call_low {K : PySem.W.Frag} {r : List V → Hp → VK → Prop} {o : Sto → List Dt → Option Dt} (hs : CallS K r o) {σ : L2.St} {H : Hp} {Q : VK} (h : lowP K (pCall o fa) σ H Q) : tCB r (lowPL K fa) σ H Q := by
  obtain ⟨F, ds, S, d, R, sl, hd, k⟩ := h
  unfold pCall at hd
  cases hx : fa ds S with
  | none =>
    rw [hx] at hd
    cases hd
  | some xs =>
    rw [hx, Option.bind_some] at hd
    exact ⟨F, ds, S, xs, R, sl, hx, fun vs H1 R1 k1 d1 => hs F S H1 xs vs d Q R1 d1 hd fun v H' R' k' dv => k v H' R' (k1.trans k') dv⟩
theorem lp_callB {x : Str} {id : String} {p2 : Pos} {r : List V → Hp → VK → Prop} {z : Sto → List Dt → Option Dt} (hc : CallR X (.builtin id) r) (hs : CallS X.K r z) (hm : X.mg x = none) (hv : bootBuiltins x = some (.builtin id)) (ha : LPA X (e :: es) fa) (hg : Gl X x := by rfl)
    (hn : x ≠ "__name__" := by decide) (hdb : (x == ("__debug__" : Str)) = false := by decide)
    (he : starEach (e :: es) X.env = (false, eval e X.env) :: starEach es X.env := by rfl) (hpl : (backTo pos (starEach es X.env)).any (·.1) = false := by rfl) : LP X (.Call (.Name x p2) (e :: es) [] pos) (pCall z fa) :=
  pe_weak (pe_callB hc hg hm hv ha hn hdb he hpl) fun _ _ _ h => call_low hs h
theorem lp_callT {x : Str} {T : String} {p2 : Pos} {r : List V → Hp → VK → Prop} {z : Sto → List Dt → Option Dt} (hc : CallR X (.type T) r) (hs : CallS X.K r z) (hm : X.mg x = none) (hv : bootBuiltins x = some (.type T)) (ha : LPA X (e :: es) fa) (hg : Gl X x := by rfl)
    (hn : x ≠ "__name__" := by decide) (hdb : (x == ("__debug__" : Str)) = false := by decide)
    (he : starEach (e :: es) X.env = (false, eval e X.env) :: starEach es X.env := by rfl) (hpl : (backTo pos (starEach es X.env)).any (·.1) = false := by rfl) : LP X (.Call (.Name x p2) (e :: es) [] pos) (pCall z fa) :=
  pe_weak (pe_callTy hc hg hm hv ha hn hdb he hpl) fun _ _ _ h => call_low hs h
theorem dats1 {K : PySem.W.Frag} {F : Addr → Prop} {S : Sto} {H : Hp} {d : Dt} {vs : List V} (h : Dats K F S H [d] vs) : ∃ v, vs = [v] ∧ Dat K F S H d v := by
  obtain ⟨v, r, e, h1, h2⟩ := dats_cons.mp h
  rw [dats_nil.mp h2] at e
  exact ⟨v, e, h1⟩
theorem dats2 {K : PySem.W.Frag} {F : Addr → Prop} {S : Sto} {H : Hp} {d d' : Dt} {vs : List V} (h : Dats K F S H [d, d'] vs) : ∃ v w, vs = [v, w] ∧ Dat K F S H d v ∧ Dat K F S H d' w := by
  obtain ⟨v, r, e, h1, h2⟩ := dats_cons.mp h
  obtain ⟨w, e2, h3⟩ := dats1 h2
  rw [e2] at e
  exact ⟨v, w, e, h1, h3⟩
/-- len -/
def dLen (S : Sto) (x : Dt) : Option Nat := match x with
  | .str x => if x.length ≤ sizeLine then some x.length else none
  | .tup xs => some xs.length
  | x => (dLst S x).map List.length
def oLen (S : Sto) (xs : List Dt) : Option Dt := match xs with
  | [x] => (dLen S x).map fun n => .int (n : Int)
  | _ => none
theorem oLen_ok {K : PySem.W.Frag} : CallS K (fun xs H Q => ∃ x n, xs = [x] ∧ LenV K x H n ∧ Q (.int n) H) oLen := by
  intro F S H xs vs z Q R dx e k
  unfold oLen at e
  split at e
  · rename_i x
    obtain ⟨v, rfl, dv⟩ := dats1 dx
    cases hl : dLen S x with
    | none =>
      rw [hl] at e
      cases e
    | some n =>
      rw [hl] at e
      cases e
      refine ⟨v, n, rfl, ?_, k _ H R Keep.refl (dat_int.mpr rfl)⟩
      unfold dLen at hl
      split at hl
      · rename_i x
        split at hl
        · rename_i hz
          cases hl
          rw [dat_str.mp dv]
          exact ⟨hz, rfl⟩
        · cases hl
      · rename_i ys
        cases hl
        obtain ⟨a, ws, e1, i, r⟩ := dat_tup.mp dv
        rw [e1]
        exact .inr ⟨ws, SqT.of i.1, r.length.symm⟩
      · cases hx : dLst S x with
        | none =>
          rw [hx] at hl
          cases hl
        | some ys =>
          rw [hx] at hl
          cases hl
          obtain ⟨a, ws, e1, i, r⟩ := dLst_ok R dv hx
          rw [e1]
          exact .inl ⟨ws, SqL.of i, r.length.symm⟩
  · cases e
theorem lp_len {p2 : Pos} (hm : X.mg "len" = none) (ha : LPA X (e :: es) fa) (hg : Gl X "len" := by rfl) (he : starEach (e :: es) X.env = (false, eval e X.env) :: starEach es X.env := by rfl) (hpl : (backTo pos (starEach es X.env)).any (·.1) = false := by rfl) :
    LP X (.Call (.Name "len" p2) (e :: es) [] pos) (pCall oLen fa) := lp_callB call_len oLen_ok hm boot_len ha hg (by decide) (by decide) he hpl
/-- int of an int, a bool -/
def oInt (_ : Sto) (xs : List Dt) : Option Dt := match xs with
  | [.int i] => some (.int i)
  | [.bl b] => some (.int (if b then 1 else 0))
  | _ => none
end
end Ax
set_option maxRecDepth 100000
set_option maxHeartbeats 4000000
/-! Ax: pure expressions: built-ins, slices, comprehensions. -/
namespace Ax
open PySem PySem.Spec PyProof.Rows L2
section
variable {X : Cx} {e a b c o : Expr} {es rest : List Expr} {pos : Pos} {f g : PX} {p q : PB} {fa : PL}
theorem oInt_ok {K : PySem.W.Frag} : CallS K (fun xs H Q => (∃ i, xs = [.int i] ∧ Q (.int i) H) ∨ ∃ k, xs = [.bl k] ∧ Q (.int (if k then 1 else 0)) H) oInt := by
  intro F S H xs vs z Q R dx e k
  unfold oInt at e
  split at e
  · rename_i i
    cases e
    obtain ⟨v, rfl, dv⟩ := dats1 dx
    exact .inl ⟨i, by rw [dat_int.mp dv], k _ H R Keep.refl (dat_int.mpr rfl)⟩
  · rename_i i
    cases e
    obtain ⟨v, rfl, dv⟩ := dats1 dx
    exact .inr ⟨i, by rw [dat_bl.mp dv], k _ H R Keep.refl (dat_int.mpr rfl)⟩
  · cases e
theorem lp_toInt {p2 : Pos} (hm : X.mg "int" = none) (ha : LPA X (e :: es) fa) (hg : Gl X "int" := by rfl) (he : starEach (e :: es) X.env = (false, eval e X.env) :: starEach es X.env := by rfl) (hpl : (backTo pos (starEach es X.env)).any (·.1) = false := by rfl) :
    LP X (.Call (.Name "int" p2) (e :: es) [] pos) (pCall oInt fa) := lp_callT call_int1 oInt_ok hm boot_int ha hg (by decide) (by decide) he hpl
def oMax (_ : Sto) (xs : List Dt) : Option Dt := match xs with
  | [.int i, .int j] => some (.int (if j > i then j else i))
  | _ => none
theorem oMax_ok {K : PySem.W.Frag} : CallS K (fun xs H Q => ∃ i j, xs = [.int i, .int j] ∧ Q (.int (if j > i then j else i)) H) oMax := by
  intro F S H xs vs z Q R dx e k
  unfold oMax at e
  split at e
  · rename_i i j
    cases e
    obtain ⟨v, w, rfl, dv, dw⟩ := dats2 dx
    exact ⟨i, j, by rw [dat_int.mp dv, dat_int.mp dw], k _ H R Keep.refl (dat_int.mpr rfl)⟩
  · cases e
theorem boot_max' : bootBuiltins "max" = some (.builtin "max") := by decide +kernel
theorem boot_min' : bootBuiltins "min" = some (.builtin "min") := by decide +kernel
theorem boot_isinstance' : bootBuiltins "isinstance" = some (.builtin "isinstance") := by decide +kernel
theorem boot_all' : bootBuiltins "all" = some (.builtin "all") := by decide +kernel
theorem boot_any' : bootBuiltins "any" = some (.builtin "any") := by decide +kernel
theorem boot_sum' : bootBuiltins "sum" = some (.builtin "sum") := by decide +kernel
theorem boot_list' : bootBuiltins "list" = some (.type "list") := by decide +kernel
theorem lp_max {p2 : Pos} (hc : X.calm = true) (hm : X.mg "max" = none) (ha : LPA X (e :: es) fa) (hg : Gl X "max" := by rfl) (he : starEach (e :: es) X.env = (false, eval e X.env) :: starEach es X.env := by rfl) (hpl : (backTo pos (starEach es X.env)).any (·.1) = false := by rfl) :
    LP X (.Call (.Name "max" p2) (e :: es) [] pos) (pCall oMax fa) := lp_callB (call_max2 hc) oMax_ok hm boot_max' ha hg (by decide) (by decide) he hpl
def oMin (_ : Sto) (xs : List Dt) : Option Dt := match xs with
  | [.int i, .int j] => some (.int (if j < i then j else i))
  | _ => none
theorem oMin_ok {K : PySem.W.Frag} : CallS K (fun xs H Q => ∃ i j, xs = [.int i, .int j] ∧ Q (.int (if j < i then j else i)) H) oMin := by
  intro F S H xs vs z Q R dx e k
  unfold oMin at e
  split at e
  · rename_i i j
    cases e
    obtain ⟨v, w, rfl, dv, dw⟩ := dats2 dx
    exact ⟨i, j, by rw [dat_int.mp dv, dat_int.mp dw], k _ H R Keep.refl (dat_int.mpr rfl)⟩
  · cases e
theorem lp_min {p2 : Pos} (hc : X.calm = true) (hm : X.mg "min" = none) (ha : LPA X (e :: es) fa) (hg : Gl X "min" := by rfl) (he : starEach (e :: es) X.env = (false, eval e X.env) :: starEach es X.env := by rfl) (hpl : (backTo pos (starEach es X.env)).any (·.1) = false := by rfl) :
    LP X (.Call (.Name "min" p2) (e :: es) [] pos) (pCall oMin fa) := lp_callB (call_min2 hc) oMin_ok hm boot_min' ha hg (by decide) (by decide) he hpl
/-- list(xs), an immutable one -/
def dSeq (S : Sto) (x : Dt) : Option (List Dt) := match x with
  | .scr ns => some (ns.map .int)
  | .tup xs => some xs
  | x => dLst S x
theorem dSeq_ok {K : PySem.W.Frag} {F : Addr → Prop} {S : Sto} {H : Hp} {x : Dt} {v : V} {xs : List Dt} (R : Rep K F S H) (h : Dat K F S H x v) (e : dSeq S x = some xs) : ∃ a vs, v = .ref a ∧ (SqL K H a vs ∨ SqT K H a vs) ∧ Dats K F S H xs vs := by
  unfold dSeq at e
  split at e
  · rename_i ns
    cases e
    obtain ⟨a, e1, i⟩ := dat_scr.mp h
    exact ⟨a, _, e1, .inl i.sq, Dats.ints.mpr rfl⟩
  · rename_i ys
    cases e
    obtain ⟨a, vs, e1, i, r⟩ := dat_tup.mp h
    exact ⟨a, vs, e1, .inr (SqT.of i.1), r⟩
  · obtain ⟨a, vs, e1, i, r⟩ := dLst_ok R h e
    exact ⟨a, vs, e1, .inl (SqL.of i), r⟩
def oList (S : Sto) (xs : List Dt) : Option Dt := match xs with
  | [x] => (dSeq S x).map .lst
  | _ => none
theorem oList_ok {K : PySem.W.Frag} : CallS K (fun xs H Q => ∃ p ys, xs = [.ref p] ∧ (SqL K H p ys ∨ SqT K H p ys) ∧ ∀ l, H l = none → Q (.ref l) (upd H l (.lst ys))) oList := by
  intro F S H xs vs z Q R dx e k
  unfold oList at e
  split at e
  · rename_i x
    obtain ⟨v, rfl, dv⟩ := dats1 dx
    cases hx : dSeq S x with
    | none =>
      rw [hx] at e
      cases e
    | some ys =>
      rw [hx] at e
      cases e
      obtain ⟨a, ws, e1, i, r⟩ := dSeq_ok R dv hx
      exact ⟨a, ws, by rw [e1], i, fun l hl => k _ _ (R.new hl) (R.kn hl) (dat_lst.mpr ⟨l, ws, rfl, ⟨upd_same, R.free hl, R.nf hl⟩, Dats.keep (R.kn hl) _ r⟩)⟩
  · cases e
theorem lp_list {p2 : Pos} (hm : X.mg "list" = none) (ha : LPA X (e :: es) fa) (hg : Gl X "list" := by rfl) (he : starEach (e :: es) X.env = (false, eval e X.env) :: starEach es X.env := by rfl) (hpl : (backTo pos (starEach es X.env)).any (·.1) = false := by rfl) :
    LP X (.Call (.Name "list" p2) (e :: es) [] pos) (pCall oList fa) := lp_callT call_list_of oList_ok hm boot_list' ha hg (by decide) (by decide) he hpl
/-! isinstance of built-in types -/
/-- the type's name -/
def tyD (S : Sto) : Dt → Option String
  | .non => some "NoneType"
  | .bl _ => some "bool"
  | .int _ => some "int"
  | .str _ => some "str"
  | .lst _ => some "list"
  | .tup _ => some "tuple"
  | .dic _ _ => some "dict"
  | .adr a => match S a with
    | some (.lst _) => some "list"
    | some (.dic _ _) => some "dict"
    | _ => none
  | .scr _ => none
  | .exc _ _ _ _ _ => none
theorem tyD_ok {K : PySem.W.Frag} {F : Addr → Prop} {S : Sto} {H : Hp} {x : Dt} {v : V} {t : String} (R : Rep K F S H) (h : Dat K F S H x v) (e : tyD S x = some t) : TyX K H v (.type t) := by
  cases x with
  | non =>
    cases e
    rw [dat_non.mp h]
    exact .base .non
  | bl c =>
    cases e
    rw [dat_bl.mp h]
    exact .base (.bl c)
  | int i =>
    cases e
    rw [dat_int.mp h]
    exact .base (.int i)
  | str i =>
    cases e
    rw [dat_str.mp h]
    exact .base (.str i)
  | lst xs =>
    cases e
    obtain ⟨a, vs, e1, i, r⟩ := dat_lst.mp h
    rw [e1]
    exact .base (.lst i.1)
  | tup xs =>
    cases e
    obtain ⟨a, vs, e1, i, r⟩ := dat_tup.mp h
    rw [e1]
    exact .base (.tup i.1)
  | dic ks xs =>
    cases e
    obtain ⟨a, vs, e1, i, l, r⟩ := dat_dic.mp h
    rw [e1]
    exact .base (.dK i.1)
  | adr a =>
    rw [dat_adr.mp h]
    have e' : (match S a with | some (.lst _) => some "list" | some (.dic _ _) => some "dict" | _ => none) = some t := e
    split at e'
    · rename_i xs hs
      cases e'
      obtain ⟨vs, h1, h2⟩ := R.mo hs
      exact .base (.lst h1)
    · rename_i ks xs hs
      cases e'
      obtain ⟨vs, h1, h2, h3⟩ := R.mo hs
      exact .base (.dK h1)
    · cases e'
  | scr i => cases e
  | exc a dd C ns xs => cases e
def isiB (t T : String) : Bool := t == T || (t == "bool" && T == "int")
theorem kit_tab {K : PySem.W.Frag} : ∀ t ∈ ["NoneType", "bool", "int", "str", "list", "tuple", "dict"], ∀ T ∈ ["bool", "int", "str", "list", "tuple", "dict"], PySem.W.kitOne K (.type t) (.type T) = some (isiB t T) := by
  intro t ht T hT
  have q : ∀ t ∈ ["NoneType", "bool", "int", "str", "list", "tuple", "dict"], ∀ T ∈ ["bool", "int", "str", "list", "tuple", "dict"], kitB t T = some (isiB t T) := by decide +kernel
  exact kit_ty (q t ht T hT)
theorem tyD_mem {S : Sto} {x : Dt} {t : String} (e : tyD S x = some t) : t ∈ ["NoneType", "bool", "int", "str", "list", "tuple", "dict"] := by
  unfold tyD at e
  split at e <;> first
    | (cases e; simp)
    | (split at e <;> first | (cases e; simp) | cases e)
    | cases e
def dIsi (T : String) (S : Sto) (x : Dt) : Option Dt := (tyD S x).map fun t => .bl (isiB t T)
theorem lp_isi {T : Str} {Ts : String} {p2 p3 : Pos} (hm : X.mg "isinstance" = none) (hT : X.mg T = none) (hbT : bootBuiltins T = some (.type Ts)) (ha : LP X a f) (hTs : Ts ∈ ["bool", "int", "str", "list", "tuple", "dict"] := by decide) (hg : Gl X "isinstance" := by rfl) (hgT : Gl X T := by rfl)
    (hn : T ≠ "__name__" := by decide) (hdb : (T == ("__debug__" : Str)) = false := by decide)
    (he : starEach [a, .Name T p3] X.env = (false, eval a X.env) :: starEach [.Name T p3] X.env := by rfl) (he2 : starEach [.Name T p3] X.env = (false, eval (.Name T p3) X.env) :: starEach [] X.env := by rfl)
    (hpl : (backTo pos (starEach [.Name T p3] X.env)).any (·.1) = false := by rfl) :
    LP X (.Call (.Name "isinstance" p2) [a, .Name T p3] [] pos) (pUn (dIsi Ts) f) :=
  pe_weak (pe_callB call_isi hg hm boot_isinstance' (pa_cons ha (pa_cons (pe_bltn (v := .ty Ts) hgT hT hbT rfl hn hdb) pa_nil he2) he) (by decide) (by decide) he hpl) fun σ H Q h => by
  refine lowP_imp (lowP_un h) ?_
  rintro v H1 ⟨F, S, d, z, R, dv, e, k⟩
  unfold dIsi at e
  cases ht : tyD S d with
  | none =>
    rw [ht] at e
    cases e
  | some t =>
    rw [ht] at e
    cases e
    exact ⟨v, .ty Ts, .type t, .type Ts, isiB t Ts, rfl, .ty Ts, tyD_ok R dv ht, kit_tab t (tyD_mem ht) Ts hTs, k _ H1 R Keep.refl (dat_bl.mpr rfl)⟩
theorem boot_bool' : bootBuiltins "bool" = some (.type "bool") := by decide +kernel
theorem boot_int' : bootBuiltins "int" = some (.type "int") := by decide +kernel
theorem boot_str' : bootBuiltins "str" = some (.type "str") := by decide +kernel
theorem boot_dict' : bootBuiltins "dict" = some (.type "dict") := by decide +kernel
theorem boot_tuple' : bootBuiltins "tuple" = some (.type "tuple") := by decide +kernel
/-! all, any of lists of truth values -/
def asBs : List Dt → Option (List Bool)
  | [] => some []
  | .bl b :: r => (asBs r).map (b :: ·)
  | _ :: _ => none
theorem asBs_ok {K : PySem.W.Frag} {F : Addr → Prop} {S : Sto} {H : Hp} : ∀ {xs : List Dt} {bs : List Bool} {vs : List V}, Dats K F S H xs vs → asBs xs = some bs → vs = bs.map V.bl
  | [], bs, vs, h, e => by
    cases e
    exact dats_nil.mp h
  | .bl b :: r, bs, vs, h, e => by
    obtain ⟨v, w, e1, h1, h2⟩ := dats_cons.mp h
    have e' : (asBs r).map (b :: ·) = some bs := e
    cases q : asBs r with
    | none =>
      rw [q] at e'
      cases e'
    | some bs' =>
      rw [q] at e'
      cases e'
      rw [e1, asBs_ok h2 q, dat_bl.mp h1]
      rfl
  | .non :: r, _, _, _, e => by cases e
  | .int _ :: r, _, _, _, e => by cases e
  | .str _ :: r, _, _, _, e => by cases e
  | .lst _ :: r, _, _, _, e => by cases e
  | .tup _ :: r, _, _, _, e => by cases e
  | .dic _ _ :: r, _, _, _, e => by cases e
  | .adr _ :: r, _, _, _, e => by cases e
  | .scr _ :: r, _, _, _, e => by cases e
  | .exc _ _ _ _ _ :: r, _, _, _, e => by cases e
def oAll (S : Sto) (xs : List Dt) : Option Dt := match xs with
  | [x] => (dLst S x).bind fun ys => (asBs ys).map fun bs => .bl (bs.all id)
  | _ => none
def oAny (S : Sto) (xs : List Dt) : Option Dt := match xs with
  | [x] => (dLst S x).bind fun ys => (asBs ys).map fun bs => .bl (bs.any id)
  | _ => none
theorem oAll_ok {K : PySem.W.Frag} : CallS K (rAll K) oAll := by
  intro F S H xs vs z Q R dx e k
  unfold oAll at e
  split at e
  · rename_i x
    obtain ⟨v, rfl, dv⟩ := dats1 dx
    cases hx : dLst S x with
    | none =>
      rw [hx] at e
      cases e
    | some ys =>
      rw [hx, Option.bind_some] at e
      cases hb : asBs ys with
      | none =>
        rw [hb] at e
        cases e
      | some bs =>
        rw [hb] at e
        cases e
        obtain ⟨a, ws, e1, i, r⟩ := dLst_ok R dv hx
        rw [asBs_ok r hb] at i
        exact ⟨a, bs, by rw [e1], SqL.of i, k _ H R Keep.refl (dat_bl.mpr rfl)⟩
  · cases e
theorem oAny_ok {K : PySem.W.Frag} : CallS K (rAny K) oAny := by
  intro F S H xs vs z Q R dx e k
  unfold oAny at e
  split at e
  · rename_i x
    obtain ⟨v, rfl, dv⟩ := dats1 dx
    cases hx : dLst S x with
    | none =>
      rw [hx] at e
      cases e
    | some ys =>
      rw [hx, Option.bind_some] at e
      cases hb : asBs ys with
      | none =>
        rw [hb] at e
        cases e
      | some bs =>
        rw [hb] at e
        cases e
        obtain ⟨a, ws, e1, i, r⟩ := dLst_ok R dv hx
        rw [asBs_ok r hb] at i
        exact ⟨a, bs, by rw [e1], SqL.of i, k _ H R Keep.refl (dat_bl.mpr rfl)⟩
  · cases e
theorem lp_all {p2 : Pos} (hc : X.calm = true) (hm : X.mg "all" = none) (ha : LPA X (e :: es) fa) (hg : Gl X "all" := by rfl) (he : starEach (e :: es) X.env = (false, eval e X.env) :: starEach es X.env := by rfl) (hpl : (backTo pos (starEach es X.env)).any (·.1) = false := by rfl) :
    LP X (.Call (.Name "all" p2) (e :: es) [] pos) (pCall oAll fa) := lp_callB (cr_all hc) oAll_ok hm boot_all' ha hg (by decide) (by decide) he hpl
theorem lp_any {p2 : Pos} (hc : X.calm = true) (hm : X.mg "any" = none) (ha : LPA X (e :: es) fa) (hg : Gl X "any" := by rfl) (he : starEach (e :: es) X.env = (false, eval e X.env) :: starEach es X.env := by rfl) (hpl : (backTo pos (starEach es X.env)).any (·.1) = false := by rfl) :
    LP X (.Call (.Name "any" p2) (e :: es) [] pos) (pCall oAny fa) := lp_callB (cr_any hc) oAny_ok hm boot_any' ha hg (by decide) (by decide) he hpl
/-! x in xs of flat things -/
def flatD : Dt → Bool
  | .non => true
  | .bl _ => true
  | .int _ => true
  | .str _ => true
  | _ => false
def toV : Dt → V
  | .non => .non
  | .bl b => .bl b
  | .int i => .int i
  | .str x => .str x
  | .adr a => .ref a
  | _ => .non
theorem flat_ok {K : PySem.W.Frag} {F : Addr → Prop} {S : Sto} {H : Hp} {x : Dt} {v : V} (h : Dat K F S H x v) (hf : flatD x = true) : v = toV x ∧ flatV v = true := by
  cases x with
  | non =>
    rw [dat_non.mp h]
    exact ⟨rfl, rfl⟩
  | bl c =>
    rw [dat_bl.mp h]
    exact ⟨rfl, rfl⟩
  | int i =>
    rw [dat_int.mp h]
    exact ⟨rfl, rfl⟩
  | str i =>
    rw [dat_str.mp h]
    exact ⟨rfl, rfl⟩
  | _ => cases hf
theorem flats_ok {K : PySem.W.Frag} {F : Addr → Prop} {S : Sto} {H : Hp} : ∀ {xs : List Dt} {vs : List V}, Dats K F S H xs vs → xs.all flatD = true → vs = xs.map toV ∧ vs.all flatV = true
  | [], vs, h, _ => by
    rw [dats_nil.mp h]
    exact ⟨rfl, rfl⟩
  | x :: xs, vs, h, hf => by
    obtain ⟨v, w, e1, h1, h2⟩ := dats_cons.mp h
    obtain ⟨f1, f2⟩ := Bool.and_eq_true_iff.mp (by simpa using hf : (flatD x && xs.all flatD) = true)
    obtain ⟨a1, a2⟩ := flat_ok h1 f1
    obtain ⟨b1, b2⟩ := flats_ok h2 f2
    rw [e1, a1, b1]
    refine ⟨rfl, ?_⟩
    rw [List.all_cons, ← a1, a2, ← b1, b2]
    rfl
def dIn (neg : Bool) (S : Sto) (x y : Dt) : Option Dt := (dSeq S y).bind fun ys => if flatD x = true ∧ ys.all flatD = true then some (.bl (if neg then !inV (toV x) (ys.map toV) else inV (toV x) (ys.map toV))) else none
theorem dIn_ok {K : PySem.W.Frag} {neg : Bool} : OpS K (rIn K neg) (dIn neg) := by
  intro F S H x y vx vy z Q R dx dy e k
  unfold dIn at e
  cases hx : dSeq S y with
  | none =>
    rw [hx] at e
    cases e
  | some ys =>
    rw [hx, Option.bind_some] at e
    split at e
    · rename_i hc
      cases e
      obtain ⟨a, ws, e1, i, r⟩ := dSeq_ok R dy hx
      obtain ⟨a1, a2⟩ := flat_ok dx hc.1
      obtain ⟨b1, b2⟩ := flats_ok r hc.2
      refine ⟨a, ws, e1, i, a2, b2, ?_⟩
      rw [a1, b1]
      exact k _ H R Keep.refl (dat_bl.mpr rfl)
    · cases e
theorem lp_in (ha : LP X a f) (hb : LP X b g) (hm : behindInMarks .In b = false := by rfl) : LP X (.Compare a [.In] [b] pos) (pOp (dIn false) f g) := lp_cmp op_in_seq dIn_ok ha hb hm
theorem lp_notIn (ha : LP X a f) (hb : LP X b g) (hm : behindInMarks .NotIn b = false := by rfl) : LP X (.Compare a [.NotIn] [b] pos) (pOp (dIn true) f g) := lp_cmp op_notIn_seq dIn_ok ha hb hm
theorem lpb_in (ha : LP X a f) (hb : LP X b g) (hm : behindInMarks .In b = false := by rfl) : LPB X (.Compare a [.In] [b] pos) (pB (pOp (dIn false) f g)) := lpb_cmp op_in_seq dIn_ok ha hb hm
theorem lpb_notIn (ha : LP X a f) (hb : LP X b g) (hm : behindInMarks .NotIn b = false := by rfl) : LPB X (.Compare a [.NotIn] [b] pos) (pB (pOp (dIn true) f g)) := lpb_cmp op_notIn_seq dIn_ok ha hb hm
/-! a < b < c of ints, as value and test -/
def pCh (o o' : Sto → Dt → Dt → Option Dt) (f g h : PX) : PX := fun ds S => (f ds S).bind fun x => (g ds S).bind fun y => match o S x y with
  | some (.bl true) => (h ds S).bind fun z => o' S y z
  | some (.bl false) => some (.bl false)
  | _ => none
theorem chain_low {K : PySem.W.Frag} {r r' : R2} {o o' : Sto → Dt → Dt → Option Dt} {h : PX} (hs : OpS K r o) (hs' : OpS K r' o') {σ : L2.St} {H : Hp} {Q : VK} (q : lowP K (pCh o o' f g h) σ H Q) : tChain r r' (lowP K f) (lowP K g) (lowP K h) σ H Q := by
  obtain ⟨F, ds, S, d, R, sl, hd, k⟩ := q
  unfold pCh at hd
  cases hx : f ds S with
  | none =>
    rw [hx] at hd
    cases hd
  | some x =>
    rw [hx, Option.bind_some] at hd
    cases hy : g ds S with
    | none =>
      rw [hy] at hd
      cases hd
    | some y =>
      rw [hy, Option.bind_some] at hd
      refine ⟨F, ds, S, x, R, sl, hx, fun vx H1 R1 k1 d1 => ⟨F, ds, S, y, R1, sl.keep k1, hy, fun vy H2 R2 k2 d2 => ?_⟩⟩
      split at hd
      · rename_i ho
        cases hz : h ds S with
        | none =>
          rw [hz] at hd
          cases hd
        | some z =>
          rw [hz, Option.bind_some] at hd
          refine hs F S H2 x y vx vy _ _ R2 (Dat.keep k2 _ d1) d2 ho fun v H3 R3 k3 dv => ⟨true, dat_bl.mp dv, ?_⟩
          refine iteT ⟨F, ds, S, z, R3, sl.keep ((k1.trans k2).trans k3), hz, fun vz H4 R4 k4 dz => ?_⟩
          exact hs' F S H4 y z vy vz d Q R4 (Dat.keep (k3.trans k4) _ d2) dz hd fun w H5 R5 k5 dw => k w H5 R5 ((((k1.trans k2).trans k3).trans k4).trans k5) dw
      · rename_i ho
        cases hd
        exact hs F S H2 x y vx vy _ _ R2 (Dat.keep k2 _ d1) d2 ho fun v H3 R3 k3 dv => ⟨false, dat_bl.mp dv, iteF (k _ H3 R3 ((k1.trans k2).trans k3) (dat_bl.mpr rfl))⟩
      · cases hd
/-! slices of lists -/
def cutD (xs : List Dt) (lo hi : Option Int) : List Dt := (xs.drop (HT.sIx xs.length 0 lo)).take (HT.sIx xs.length xs.length hi - HT.sIx xs.length 0 lo)
abbrev PO' := Env → Sto → Option (Option Int)
def lowPO (K : PySem.W.Frag) (f : PO') : TO := fun σ H Q => ∃ F ds S i, Rep K F S H ∧ Sl K F S H σ ds ∧ f ds S = some i ∧ ∀ H', Rep K F S H' → Keep F S H S H' → Q i H'
def LPO (X : Cx) (e : Option Expr) (f : PO') : Prop := PO X e (lowPO X.K f)
def asI : Dt → Option Int
  | .int i => some i
  | _ => none
def oNone : PO' := fun _ _ => some none
def oSome (f : PX) : PO' := fun ds S => (f ds S).bind fun d => (asI d).map some
theorem asI_some {d : Dt} {i : Int} (h : asI d = some i) : d = .int i := by
  cases d <;> first | (cases h; rfl) | cases h
theorem lpo_none : LPO X none oNone := ⟨fun pins s σ H Q I ⟨F, ds, S, i, R, sl, e, k⟩ => po_none.run pins s σ H Q I (by cases e; exact k H R Keep.refl)⟩
theorem lpo_some (h : LP X e f) : LPO X (some e) (oSome f) := ⟨fun pins s σ H Q I ⟨F, ds, S, i, R, sl, q, k⟩ => (po_some h).run pins s σ H Q I (by
  unfold oSome at q
  cases hx : f ds S with
  | none =>
    rw [hx] at q
    cases q
  | some x =>
    rw [hx, Option.bind_some] at q
    cases hy : asI x with
    | none =>
      rw [hy] at q
      cases q
    | some j =>
      rw [hy] at q
      cases q
      rw [asI_some hy] at hx
      exact ⟨F, ds, S, _, R, sl, hx, fun v H1 R1 k1 d1 => ⟨j, dat_int.mp d1, k H1 R1 k1⟩⟩)⟩
variable {lo hi : Option Expr} {fl fh : PO'}
def pSl (f : PX) (fl fh : PO') : PX := fun ds S => (f ds S).bind fun x => (fl ds S).bind fun l => (fh ds S).bind fun u => (dLst S x).map fun xs => .lst (cutD xs l u)
theorem cutD_ok {K : PySem.W.Frag} {F : Addr → Prop} {S : Sto} {H : Hp} {xs : List Dt} {vs : List V} {l u : Option Int} (h : Dats K F S H xs vs) : Dats K F S H (cutD xs l u) (cutV vs l u) := by
  unfold cutD cutV
  rw [h.length]
  exact Dats.take _ (Dats.drop _ h)
theorem lp_sl {p2 : Pos} (he : LP X e f) (hl : LPO X lo fl) (hu : LPO X hi fh) : LP X (.Subscript e (.Slice lo hi none p2) pos) (pSl f fl fh) := pe_weak (pe_slice sl_list he hl hu) fun σ H Q ⟨F, ds, S, d, R, sl, hd, k⟩ => by
  unfold pSl at hd
  cases hx : f ds S with
  | none =>
    rw [hx] at hd
    cases hd
  | some x =>
    rw [hx, Option.bind_some] at hd
    cases hy : fl ds S with
    | none =>
      rw [hy] at hd
      cases hd
    | some l =>
      rw [hy, Option.bind_some] at hd
      cases hz : fh ds S with
      | none =>
        rw [hz] at hd
        cases hd
      | some u =>
        rw [hz, Option.bind_some] at hd
        cases hxs : dLst S x with
        | none =>
          rw [hxs] at hd
          cases hd
        | some xs =>
          rw [hxs] at hd
          cases hd
          refine ⟨F, ds, S, x, R, sl, hx, fun vx H1 R1 k1 d1 => ⟨F, ds, S, l, R1, sl.keep k1, hy, fun H2 R2 k2 => ⟨F, ds, S, u, R2, sl.keep (k1.trans k2), hz, fun H3 R3 k3 => ?_⟩⟩⟩
          obtain ⟨a, vs, e1, i, r⟩ := dLst_ok R3 (Dat.keep (k2.trans k3) _ d1) hxs
          exact ⟨a, vs, e1, SqL.of i, fun p hp => k _ _ (R3.new hp) (((k1.trans k2).trans k3).trans (R3.kn hp)) (dat_lst.mpr ⟨p, _, rfl, ⟨upd_same, R3.free hp, R3.nf hp⟩, Dats.keep (R3.kn hp) _ (cutD_ok r)⟩)⟩
end
end Ax
set_option maxRecDepth 100000
set_option maxHeartbeats 4000000
/-! Ax: effects: operators on effects, sources of loops, comprehensions, calls. -/
namespace Ax
open PySem PySem.Spec PyProof.Rows L2
/-- what a body stands in -/
structure Cxt (X : Cx) (W : WX) : Prop where
  tk : Takes X W
  po : PassesOwn (model X.prog X.w) X.A X.env X.xe
  calm : X.calm = true
  nd : X.N.Nodup
def W0 : WX := fun _ _ _ _ => False
section
variable {X : Cx} {W : WX} {e a b c o : Expr} {es rest : List Expr} {pos : Pos} {f g : PX} {p q : PB} {fa : PL} {Ta Tb Te : LTe} {Tp Tq : LTb} {TA TB : LTa}
/-! ### monotony -/
theorem low_run {K : PySem.W.Frag} {T : LTe} {F : Addr → Prop} {ds : Env} {S : Sto} {Φ : Kt} {Ψ : Xt} {σ : L2.St} {H : Hp} {Q : VK} (R : Rep K F S H) (sl : Sl K F S H σ ds) (h : T ds S Φ Ψ) (k : ∀ d S' v H', Φ d S' → Rep K F S' H' → Keep F S H S' H' → Dat K F S' H' d v → Q v H') (x : XOk K W Ψ σ F S H) :
    low K W T σ H Q := ⟨F, ds, S, Φ, Ψ, R, sl, h, k, x⟩
theorem lowB_run {K : PySem.W.Frag} {T : LTb} {F : Addr → Prop} {ds : Env} {S : Sto} {Φ : Bool → Sto → Prop} {Ψ : Xt} {σ : L2.St} {H : Hp} {Q : Bool → Hp → Prop} (R : Rep K F S H) (sl : Sl K F S H σ ds) (h : T ds S Φ Ψ) (k : ∀ d S' H', Φ d S' → Rep K F S' H' → Keep F S H S' H' → Q d H') (x : XOk K W Ψ σ F S H) :
    lowB K W T σ H Q := ⟨F, ds, S, Φ, Ψ, R, sl, h, k, x⟩
theorem lowA_run {K : PySem.W.Frag} {T : LTa} {F : Addr → Prop} {ds : Env} {S : Sto} {Φ : List Dt → Sto → Prop} {Ψ : Xt} {σ : L2.St} {H : Hp} {Q : List V → Hp → Prop} (R : Rep K F S H) (sl : Sl K F S H σ ds) (h : T ds S Φ Ψ) (k : ∀ d S' v H', Φ d S' → Rep K F S' H' → Keep F S H S' H' → Dats K F S' H' d v → Q v H') (x : XOk K W Ψ σ F S H) :
    lowA K W T σ H Q := ⟨F, ds, S, Φ, Ψ, R, sl, h, k, x⟩
/-! ### operators -/
def tBin (o : Sto → Dt → Dt → Option Dt) (Ta Tb : LTe) : LTe := fun ds S Φ Ψ => Ta ds S (fun x S1 => Tb ds S1 (fun y S2 => ∃ z, o S2 x y = some z ∧ Φ z S2) Ψ) Ψ
theorem bin_low {K : PySem.W.Frag} {r : R2} {z : Sto → Dt → Dt → Option Dt} (hs : OpS K r z) {σ : L2.St} {H : Hp} {Q : VK} (h : low K W (tBin z Ta Tb) σ H Q) : tOp r (low K W Ta) (low K W Tb) σ H Q := by
  obtain ⟨F, ds, S, Φ, Ψ, R, sl, h, k, x⟩ := h
  refine low_run R sl h (fun d1 S1 v1 H1 h1 R1 k1 dv1 => ?_) x
  refine low_run R1 (sl.keep k1) h1 (fun d2 S2 v2 H2 h2 R2 k2 dv2 => ?_) (x.keep k1)
  obtain ⟨w, h3, h4⟩ := h2
  exact hs F S2 H2 d1 d2 v1 v2 w Q R2 (Dat.keep k2 _ dv1) dv2 h3 fun v H' R' k' dv => k w S2 v H' h4 R' ((k1.trans k2).trans k') dv
structure OpF (X : Cx) (op : Operator) (z : Sto → Dt → Dt → Option Dt) : Prop where
  ex : ∃ r, OpR X (binaryOp op) r ∧ OpS X.K r z
structure CmF (X : Cx) (op : CmpOp) (z : Sto → Dt → Dt → Option Dt) : Prop where
  ex : ∃ r, OpR X (compareOp op) r ∧ OpS X.K r z
theorem of_add : OpF X .Add dAdd := ⟨_, op_any op_add (op_any op_add_str (op_any op_catT op_cat)), dAdd_ok⟩
theorem of_sub : OpF X .Sub dSub := ⟨_, op_sub, dI_ok hI⟩
theorem of_mod : OpF X .Mod dMod := ⟨_, op_mod, dI2_ok (fun _ _ h => of_decide_eq_true h) hI⟩
theorem of_fdiv : OpF X .FloorDiv dFdiv := ⟨_, op_fdiv, dI2_ok (fun _ j h => of_decide_eq_true (p := 0 < j ∧ j < 1073741824) h) hI⟩
theorem of_and : OpF X .BitAnd dAnd := ⟨_, op_and, dI_ok hI⟩
theorem of_or : OpF X .BitOr dOr := ⟨_, op_or, dI_ok hI⟩
theorem of_xor : OpF X .BitXor dXor := ⟨_, op_xor, dI_ok hI⟩
theorem of_shr : OpF X .RShift dShr := ⟨_, op_shr, dI2_ok (fun _ _ h => of_decide_eq_true h) hI⟩
theorem of_shl : OpF X .LShift dShl := ⟨_, op_shl, dI2_ok (fun i j h => of_decide_eq_true (p := 0 ≤ j ∧ j ≤ 1000000 ∧ i.natAbs < 2 ^ 64) h) hI⟩
theorem of_pow : OpF X .Pow dPow := ⟨_, op_pow, dI2_ok (fun i j h => of_decide_eq_true (p := 0 ≤ j ∧ j ≤ 1000000 ∧ i.natAbs < 2 ^ 64) h) hI⟩
theorem op_mul_rep : OpS X.K (fun x y H Q => rI CMul (fun i j => .int (i * j)) x y H Q ∨ rRep x y H Q) dMul := by
  intro F S H x y vx vy z Q R dx dy e k
  unfold dMul at e
  split at e
  · rename_i i j
    split at e
    · rename_i hc
      cases e
      exact .inl ⟨i, j, dat_int.mp dx, dat_int.mp dy, hc, k _ H R Keep.refl (dat_int.mpr rfl)⟩
    · cases e
  · rename_i n _
    cases hx : dLst S x with
    | none =>
      rw [hx] at e
      cases e
    | some xs =>
      rw [hx, Option.bind_some] at e
      split at e
      · rename_i hc
        cases e
        obtain ⟨a, vs, e1, h1, r1⟩ := dLst_ok R dx hx
        obtain ⟨c1, c2, c3⟩ := hc
        refine .inr ⟨a, n, vs, e1, dat_int.mp dy, h1, c1, c2, by rw [r1.length]; exact c3, fun p hp => ?_⟩
        exact k _ _ (R.new hp) (R.kn hp) (dat_lst.mpr ⟨p, _, rfl, ⟨upd_same, R.free hp, R.nf hp⟩, Dats.keep (R.kn hp) _ (dats_rep r1 n.toNat)⟩)
      · cases e
  · cases e
theorem of_mul : OpF X .Mult dMul := ⟨_, op_any op_mul op_rep, op_mul_rep⟩
theorem cf_lt : CmF X .Lt dLt := ⟨_, op_lt, dI_ok hB⟩
theorem cf_le : CmF X .LtE dLe := ⟨_, op_le, dI_ok hB⟩
theorem cf_gt : CmF X .Gt dGt := ⟨_, op_gt, dI_ok hB⟩
theorem cf_ge : CmF X .GtE dGe := ⟨_, op_ge, dI_ok hB⟩
theorem cf_eq (hu : X.A.units + 64 < cLine) : CmF X .Eq dEq := ⟨_, op_any op_eq (op_eqD hu), dEq_ok⟩
theorem cf_ne (hu : X.A.units + 64 < cLine) : CmF X .NotEq dNe := ⟨_, op_any op_ne (op_neD hu), dNe_ok⟩
theorem cf_in : CmF X .In (dIn false) := ⟨_, op_in_seq, dIn_ok⟩
theorem cf_notIn : CmF X .NotIn (dIn true) := ⟨_, op_notIn_seq, dIn_ok⟩
theorem lp_bin {op : Operator} {z : Sto → Dt → Dt → Option Dt} (h : OpF X op z) (ha : LP X a f) (hb : LP X b g) : LP X (.BinOp a op b pos) (pOp z f g) := by
  obtain ⟨r, h1, h2⟩ := h.ex
  exact lp_op h1 h2 ha hb
theorem le_bin {op : Operator} {z : Sto → Dt → Dt → Option Dt} (h : OpF X op z) (ha : LE X W a Ta) (hb : LE X W b Tb) : LE X W (.BinOp a op b pos) (tBin z Ta Tb) := by
  obtain ⟨r, h1, h2⟩ := h.ex
  exact pe_weak (pe_op h1 ha hb) fun _ _ _ q => bin_low h2 q
theorem lp_cm {op : CmpOp} {z : Sto → Dt → Dt → Option Dt} (h : CmF X op z) (ha : LP X a f) (hb : LP X b g) (hm : behindInMarks op b = false := by first | exact nobehind _ (by decide) (by decide) | rfl) : LP X (.Compare a [op] [b] pos) (pOp z f g) := by
  obtain ⟨r, h1, h2⟩ := h.ex
  exact lp_cmp h1 h2 ha hb hm
theorem lpb_cm {op : CmpOp} {z : Sto → Dt → Dt → Option Dt} (h : CmF X op z) (ha : LP X a f) (hb : LP X b g) (hm : behindInMarks op b = false := by first | exact nobehind _ (by decide) (by decide) | rfl) : LPB X (.Compare a [op] [b] pos) (pB (pOp z f g)) := by
  obtain ⟨r, h1, h2⟩ := h.ex
  exact lpb_cmp h1 h2 ha hb hm
theorem lp_ch {op op' : CmpOp} {z z' : Sto → Dt → Dt → Option Dt} {fc : PX} (h : CmF X op z) (h' : CmF X op' z') (ha : LP X a f) (hb : LP X b g) (hc : LP X c fc) (hm : lastMarks [op, op'] [b, c] = false := by with_unfolding_all rfl) : LP X (.Compare a [op, op'] [b, c] pos) (pCh z z' f g fc) := by
  obtain ⟨r, h1, h2⟩ := h.ex
  obtain ⟨r', h3, h4⟩ := h'.ex
  exact pe_weak (pe_chain h1 h3 ha hb hc hm) fun _ _ _ q => chain_low h2 h4 q
theorem lpb_ch {op op' : CmpOp} {z z' : Sto → Dt → Dt → Option Dt} {fc : PX} (h : CmF X op z) (h' : CmF X op' z') (ha : LP X a f) (hb : LP X b g) (hc : LP X c fc) (hm : lastMarks [op, op'] [b, c] = false := by with_unfolding_all rfl) : LPB X (.Compare a [op, op'] [b, c] pos) (pB (pCh z z' f g fc)) := by
  obtain ⟨r, h1, h2⟩ := h.ex
  obtain ⟨r', h3, h4⟩ := h'.ex
  exact pt_weak (pt_chain h1 h3 ha hb hc hm) fun σ H Q ⟨F, ds, S, d, R, sl, hd, k⟩ => chain_low h2 h4 ⟨F, ds, S, .bl d, R, sl, pB_some hd, fun v H' R' k' dv => ⟨d, dat_bl.mp dv, k H' R' k'⟩⟩
def tTst (T : LTe) : LTb := fun ds S Φ Ψ => T ds S (fun d S1 => ∃ b, asB d = some b ∧ Φ b S1) Ψ
theorem lb_cm {op : CmpOp} {z : Sto → Dt → Dt → Option Dt} (h : CmF X op z) (ha : LE X W a Ta) (hb : LE X W b Tb) (hm : behindInMarks op b = false := by first | exact nobehind _ (by decide) (by decide) | rfl) : LB X W (.Compare a [op] [b] pos) (tTst (tBin z Ta Tb)) := by
  obtain ⟨r, h1, h2⟩ := h.ex
  refine pt_weak (pt_cmpR h1 ha hb hm) fun σ H Q q => ?_
  obtain ⟨F, ds, S, Φ, Ψ, R, sl, q, k, x⟩ := q
  refine bin_low h2 (low_run R sl q (fun d S' v H' hd R' k' dv => ?_) x)
  obtain ⟨b', e1, e2⟩ := hd
  rw [asB_some e1] at dv
  exact ⟨b', dat_bl.mp dv, k b' S' H' e2 R' k'⟩
theorem le_cm {op : CmpOp} {z : Sto → Dt → Dt → Option Dt} (h : CmF X op z) (ha : LE X W a Ta) (hb : LE X W b Tb) (hm : behindInMarks op b = false := by first | exact nobehind _ (by decide) (by decide) | rfl) : LE X W (.Compare a [op] [b] pos) (tBin z Ta Tb) := by
  obtain ⟨r, h1, h2⟩ := h.ex
  exact pe_weak (pe_cmpR h1 ha hb hm) fun _ _ _ q => bin_low h2 q
/-! ### tests on effects -/
def tB1 (T : LTe) : LTb := fun ds S Φ Ψ => T ds S (fun d S1 => ∃ b, dTru S1 d = some b ∧ Φ b S1) Ψ
theorem lb_tru (ha : LE X W a Ta) (he : ∀ whole, isTrue a X.env whole = (do let v ← whole; standAt a.pos; holding [v] (truthy v)) := by intro _; rfl) : LB X W a (tB1 Ta) := pt_weak (pt_truth ha he) fun σ H Q ⟨F, ds, S, Φ, Ψ, R, sl, q, k, x⟩ =>
  low_run R sl q (fun d S' v H' ⟨b, e1, e2⟩ R' k' dv => ⟨b, dTru_ok R' dv e1, k b S' H' e2 R' k'⟩) x
def tAndB (Tp Tq : LTb) : LTb := fun ds S Φ Ψ => Tp ds S (fun b S1 => if b = true then Tq ds S1 Φ Ψ else Φ false S1) Ψ
def tOrB (Tp Tq : LTb) : LTb := fun ds S Φ Ψ => Tp ds S (fun b S1 => if b = true then Φ true S1 else Tq ds S1 Φ Ψ) Ψ
def LBW (X : Cx) (W : WX) (e : Expr) (T : LTb) : Prop := PW X e (lowB X.K W T)
theorem LBW.tst (h : LBW X W a Tp) : LB X W a Tp := PW.pt h
theorem lbw_and1 (ha : LB X W a Tp) : LBW X W (.BoolOp .And [a] pos) Tp := pw_and1 ha
theorem lbw_or1 (ha : LB X W a Tp) : LBW X W (.BoolOp .Or [a] pos) Tp := pw_or1 ha
theorem lbw_and (ha : LB X W a Tp) (hb : LBW X W (.BoolOp .And (b :: rest) pos) Tq) : LBW X W (.BoolOp .And (a :: b :: rest) pos) (tAndB Tp Tq) := pw_weak (pw_and ha hb) fun σ H Q ⟨F, ds, S, Φ, Ψ, R, sl, q, k, x⟩ =>
  lowB_run R sl q (fun b' S1 H1 q1 R1 k1 => by
    cases b' with
    | true => exact iteT (lowB_run R1 (sl.keep k1) (show Tq ds S1 Φ Ψ from q1) (fun d S' H' h R' k' => k d S' H' h R' (k1.trans k')) (x.keep k1))
    | false => exact iteF (k false S1 H1 q1 R1 k1)) x
theorem lbw_or (ha : LB X W a Tp) (hb : LBW X W (.BoolOp .Or (b :: rest) pos) Tq) : LBW X W (.BoolOp .Or (a :: b :: rest) pos) (tOrB Tp Tq) := pw_weak (pw_or ha hb) fun σ H Q ⟨F, ds, S, Φ, Ψ, R, sl, q, k, x⟩ =>
  lowB_run R sl q (fun b' S1 H1 q1 R1 k1 => by
    cases b' with
    | true => exact iteT (k true S1 H1 q1 R1 k1)
    | false => exact iteF (lowB_run R1 (sl.keep k1) (show Tq ds S1 Φ Ψ from q1) (fun d S' H' h R' k' => k d S' H' h R' (k1.trans k')) (x.keep k1))) x
def tNotB (Tp : LTb) : LTb := fun ds S Φ Ψ => Tp ds S (fun b S1 => Φ (!b) S1) Ψ
theorem lb_not (ha : LB X W a Tp) : LB X W (.UnaryOp .Not a pos) (tNotB Tp) := pt_weak (pt_not ha) fun σ H Q ⟨F, ds, S, Φ, Ψ, R, sl, q, k, x⟩ =>
  lowB_run R sl q (fun b' S1 H1 q1 R1 k1 => k (!b') S1 H1 q1 R1 k1) x
def tIfE (Tp : LTb) (Ta Tb : LTe) : LTe := fun ds S Φ Ψ => Tp ds S (fun b S1 => if b = true then Ta ds S1 Φ Ψ else Tb ds S1 Φ Ψ) Ψ
theorem le_ifExp (hc : LB X W c Tp) (ha : LE X W a Ta) (hb : LE X W b Tb) : LE X W (.IfExp c a b pos) (tIfE Tp Ta Tb) := pe_weak (pe_ifExp hc ha hb) fun σ H Q ⟨F, ds, S, Φ, Ψ, R, sl, q, k, x⟩ =>
  lowB_run R sl q (fun b' S1 H1 q1 R1 k1 => by
    cases b' with
    | true => exact iteT (low_run R1 (sl.keep k1) (show Ta ds S1 Φ Ψ from q1) (fun d S' v H' h R' k' dv => k d S' v H' h R' (k1.trans k') dv) (x.keep k1))
    | false => exact iteF (low_run R1 (sl.keep k1) (show Tb ds S1 Φ Ψ from q1) (fun d S' v H' h R' k' dv => k d S' v H' h R' (k1.trans k') dv) (x.keep k1))) x
/-! ### arguments, displays -/
def tACons (Te : LTe) (TA : LTa) : LTa := fun ds S Φ Ψ => Te ds S (fun x S1 => TA ds S1 (fun xs S2 => Φ (x :: xs) S2) Ψ) Ψ
theorem la_nil : LA X W [] (ofL aNil) := la_p lpa_nil
theorem la_cons (ha : LE X W e Te) (hr : LA X W es TA) (hs : starEach (e :: es) X.env = (false, eval e X.env) :: starEach es X.env := by rfl) : LA X W (e :: es) (tACons Te TA) := pa_weak (pa_cons ha hr hs) fun σ H Q ⟨F, ds, S, Φ, Ψ, R, sl, q, k, x⟩ =>
  low_run R sl q (fun d1 S1 v1 H1 q1 R1 k1 dv1 => lowA_run R1 (sl.keep k1) q1 (fun xs S2 vs H2 q2 R2 k2 dv2 => k (d1 :: xs) S2 (v1 :: vs) H2 q2 R2 (k1.trans k2) (Dats.cons (Dat.keep k2 _ dv1) dv2)) (x.keep k1)) x
def tLstE (TA : LTa) : LTe := fun ds S Φ Ψ => TA ds S (fun xs S1 => xs.length ≤ 1000 ∧ Φ (.lst xs) S1) Ψ
def tTupE (TA : LTa) : LTe := fun ds S Φ Ψ => TA ds S (fun xs S1 => xs.length ≤ 1000 ∧ Φ (.tup xs) S1) Ψ
/-- a list that will be changed -/
def tLstM (TA : LTa) : LTe := fun ds S Φ Ψ => TA ds S (fun xs S1 => xs.length ≤ 1000 ∧ ∀ p, S1 p = none → Φ (.adr p) (S1.put p (.lst xs))) Ψ
theorem le_lst (h : LA X W es TA) : LE X W (.List es pos) (tLstE TA) := pe_weak (pe_lst h) fun σ H Q ⟨F, ds, S, Φ, Ψ, R, sl, q, k, x⟩ =>
  lowA_run R sl q (fun xs S1 vs H1 ⟨hl, q1⟩ R1 k1 d1 => ⟨by rw [d1.length]; exact small_line hl, fun p hp => k _ _ _ _ q1 (R1.new hp) (k1.trans (R1.kn hp)) (dat_lst.mpr ⟨p, vs, rfl, ⟨upd_same, R1.free hp, R1.nf hp⟩, Dats.keep (R1.kn hp) _ d1⟩)⟩) x
theorem le_tup {x1} (h : LA X W es TA) : LE X W (.Tuple es x1 pos) (tTupE TA) := pe_weak (pe_tup h) fun σ H Q ⟨F, ds, S, Φ, Ψ, R, sl, q, k, x⟩ =>
  lowA_run R sl q (fun xs S1 vs H1 ⟨hl, q1⟩ R1 k1 d1 => ⟨by rw [d1.length]; exact small_line hl, fun p hp => k _ _ _ _ q1 (R1.new hp) (k1.trans (R1.kn hp)) (dat_tup.mpr ⟨p, vs, rfl, ⟨upd_same, R1.free hp, R1.nf hp⟩, Dats.keep (R1.kn hp) _ d1⟩)⟩) x
theorem le_lstM (h : LA X W es TA) : LE X W (.List es pos) (tLstM TA) := pe_weak (pe_lst h) fun σ H Q ⟨F, ds, S, Φ, Ψ, R, sl, q, k, x⟩ =>
  lowA_run R sl q (fun xs S1 vs H1 ⟨hl, q1⟩ R1 k1 d1 => ⟨by rw [d1.length]; exact small_line hl, fun p hp =>
    k _ _ _ _ (q1 p (R1.free hp)) (R1.put (R1.nf hp) (R1.knM hp) ⟨vs, upd_same, Dats.keep (R1.knM hp) _ d1⟩) (k1.trans (R1.knM hp)) (dat_adr.mpr rfl)⟩) x
/-- list(xs), to be changed -/
def tListM (f : PX) : LTe := fun ds S Φ _ => ∃ d xs, f ds S = some d ∧ dSeq S d = some xs ∧ ∀ p, S p = none → Φ (.adr p) (S.put p (.lst xs))
theorem le_listM {p2 : Pos} (hm : X.mg "list" = none) (ha : LP X a f) (hg : Gl X "list" := by rfl) (he : starEach [a] X.env = (false, eval a X.env) :: starEach [] X.env := by rfl) (hpl : (backTo pos (starEach [] X.env)).any (·.1) = false := by rfl) :
    LE X W (.Call (.Name "list" p2) [a] [] pos) (tListM f) := pe_weak (pe_callTy call_list_of hg hm boot_list' (pa_cons ha pa_nil he) (by decide) (by decide) he hpl) fun σ H Q ⟨F, ds, S, Φ, Ψ, R, sl, ⟨d, xs, e1, e2, q⟩, k, x⟩ =>
  ⟨F, ds, S, d, R, sl, e1, fun v H1 R1 k1 d1 => by
    obtain ⟨a, vs, e3, i, r⟩ := dSeq_ok R1 d1 e2
    exact ⟨a, vs, by rw [e3], i, fun p hp => k _ _ _ _ (q p (R1.free hp)) (R1.put (R1.nf hp) (R1.knM hp) ⟨vs, upd_same, Dats.keep (R1.knM hp) _ r⟩) (k1.trans (R1.knM hp)) (dat_adr.mpr rfl)⟩⟩
/-- subscripts, attributes, one-place operators on effects -/
theorem le_ix (ha : LE X W a Ta) (hb : LE X W b Tb) (hs : PlainIx b := by exact fun _ _ => rfl) : LE X W (.Subscript a b pos) (tBin dIx Ta Tb) := pe_weak (pe_ix ix_seq ha hb hs) fun _ _ _ h => bin_low dIx_ok h
def tUnE (o : Sto → Dt → Option Dt) (T : LTe) : LTe := fun ds S Φ Ψ => T ds S (fun d S1 => ∃ z, o S1 d = some z ∧ Φ z S1) Ψ
theorem le_isN {j : Nat} {pos' : Pos} (ha : LE X W a Ta) : LE X W (.Compare a [.Is] [.Constant .none j pos'] pos) (tUnE oIsN Ta) := pe_weak (pe_cmp (pc_isN ha)) fun σ H Q ⟨F, ds, S, Φ, Ψ, R, sl, q, k, x⟩ =>
  low_run R sl q (fun d S1 v H1 ⟨z, e1, e2⟩ R1 k1 d1 => by
    cases e1
    rw [isN_ok d1]
    exact k _ S1 _ H1 e2 R1 k1 (dat_bl.mpr rfl)) x
theorem lb_isN {j : Nat} {pos' : Pos} (ha : LE X W a Ta) : LB X W (.Compare a [.Is] [.Constant .none j pos'] pos) (tTst (tUnE oIsN Ta)) := pt_weak (pt_cmp (pc_isN ha)) fun σ H Q ⟨F, ds, S, Φ, Ψ, R, sl, q, k, x⟩ =>
  low_run R sl q (fun d S1 v H1 ⟨z, e1, b, e2, e3⟩ R1 k1 d1 => by
    cases e1
    cases e2
    rw [isN_ok d1]
    exact ⟨_, rfl, k _ S1 H1 e3 R1 k1⟩) x
theorem lb_notN {j : Nat} {pos' : Pos} (ha : LE X W a Ta) : LB X W (.Compare a [.IsNot] [.Constant .none j pos'] pos) (tTst (tUnE oNotN Ta)) := pt_weak (pt_cmp (pc_notN ha)) fun σ H Q ⟨F, ds, S, Φ, Ψ, R, sl, q, k, x⟩ =>
  low_run R sl q (fun d S1 v H1 ⟨z, e1, b, e2, e3⟩ R1 k1 d1 => by
    cases e1
    cases e2
    rw [isN_ok d1]
    exact ⟨_, rfl, k _ S1 H1 e3 R1 k1⟩) x
/-- built-in functions on effects -/
def tCallE (z : Sto → List Dt → Option Dt) (TA : LTa) : LTe := fun ds S Φ Ψ => TA ds S (fun xs S1 => ∃ d, z S1 xs = some d ∧ Φ d S1) Ψ
theorem tcb_low {K : PySem.W.Frag} {r : List V → Hp → VK → Prop} {z : Sto → List Dt → Option Dt} (hs : CallS K r z) {σ : L2.St} {H : Hp} {Q : VK} (h : low K W (tCallE z TA) σ H Q) : tCB r (lowA K W TA) σ H Q := by
  obtain ⟨F, ds, S, Φ, Ψ, R, sl, q, k, x⟩ := h
  exact lowA_run R sl q (fun xs S1 vs H1 ⟨d, e1, e2⟩ R1 k1 d1 => hs F S1 H1 xs vs d Q R1 d1 e1 fun v H' R' k' dv => k d S1 v H' e2 R' (k1.trans k') dv) x
theorem le_callB {x : Str} {id : String} {p2 : Pos} {r : List V → Hp → VK → Prop} {z : Sto → List Dt → Option Dt} (hc : CallR X (.builtin id) r) (hs : CallS X.K r z) (hm : X.mg x = none) (hv : bootBuiltins x = some (.builtin id)) (ha : LA X W (e :: es) TA) (hg : Gl X x := by rfl)
    (hn : x ≠ "__name__" := by decide) (hdb : (x == ("__debug__" : Str)) = false := by decide)
    (he : starEach (e :: es) X.env = (false, eval e X.env) :: starEach es X.env := by rfl) (hpl : (backTo pos (starEach es X.env)).any (·.1) = false := by rfl) : LE X W (.Call (.Name x p2) (e :: es) [] pos) (tCallE z TA) :=
  pe_weak (pe_callB hc hg hm hv ha hn hdb he hpl) fun _ _ _ h => tcb_low hs h
end
end Ax
set_option maxRecDepth 100000
set_option maxHeartbeats 4000000
/-! Ax: statements, calls, functions. -/
namespace Ax
open PySem PySem.Spec PyProof.Rows L2
section
variable {X : Cx} {W : WX} {e a b c o : Expr} {es : List Expr} {st : Stmt} {rest sts : List Stmt} {pos pos' : Pos} {f g : PX} {fa : PL} {Ta Tb Te : LTe} {Tp Tq : LTb} {TA TB : LTa} {T U U2 : LTs}
theorem lowS_run {K : PySem.W.Frag} {F : Addr → Prop} {ds : Env} {S : Sto} {L : LEnds} {σ : L2.St} {H : Hp} {D : Ends} (R : Rep K F S H) (sl : Sl K F S H σ ds) (h : T L ds S) (eo : EndsOk K W D L F S H) : lowS K W T D σ H := ⟨F, ds, S, L, R, sl, h, eo⟩
/-! ### blocks -/
def sNext : LTs := fun L ds S => L.nx ds S
def sSeq (T U : LTs) : LTs := fun L ds S => T { L with nx := fun ds' S' => U L ds' S' } ds S
theorem lss_nil : LSs X W [] sNext := pss_weak pss_nil fun D σ H ⟨F, ds, S, L, R, sl, h, eo⟩ => eo.nx ds S σ H h R Keep.refl sl
theorem lss_cons (h1 : LS X W st T) (h2 : LSs X W rest U) : LSs X W (st :: rest) (sSeq T U) := pss_weak (pss_cons h1 h2) fun D σ H ⟨F, ds, S, L, R, sl, h, eo⟩ =>
  lowS_run R sl h ⟨fun ds' S' σ' H' q R' k' sl' => lowS_run R' sl' q (eo.keep k'), eo.rt, eo.bk, eo.ct, eo.xc⟩
theorem lss_one (h1 : LS X W st T) : LSs X W [st] T := pss_one h1
theorem ls_pass : LS X W (.Pass pos) sNext := ps_weak ps_pass fun D σ H ⟨F, ds, S, L, R, sl, h, eo⟩ => eo.nx ds S σ H h R Keep.refl sl
def sBreak : LTs := fun L ds S => L.bk ds S
def sCont : LTs := fun L ds S => L.ct ds S
theorem ls_break : LS X W (.Break pos) sBreak := ps_weak ps_break fun D σ H ⟨F, ds, S, L, R, sl, h, eo⟩ => eo.bk ds S σ H h R Keep.refl sl
theorem ls_continue : LS X W (.Continue pos) sCont := ps_weak ps_continue fun D σ H ⟨F, ds, S, L, R, sl, h, eo⟩ => eo.ct ds S σ H h R Keep.refl sl
def sExpr (Te : LTe) : LTs := fun L ds S => Te ds S (fun _ S' => L.nx ds S') (L.xc ds)
theorem ls_expr (he : LE X W e Te) (hs : swapsWith e none pos.line X.env = pure false := by rfl) : LS X W (.Expr e pos) (sExpr Te) := ps_weak (ps_expr he hs) fun D σ H ⟨F, ds, S, L, R, sl, h, eo⟩ =>
  low_run R sl h (fun d S' v H' q R' k' dv => eo.nx ds S' σ H' q R' k' (sl.keep k')) (eo.x sl)
def sRet (Te : LTe) : LTs := fun L ds S => Te ds S L.rt (L.xc ds)
theorem ls_ret (he : LE X W e Te) : LS X W (.Return (some e) pos) (sRet Te) := ps_weak (ps_ret he) fun D σ H ⟨F, ds, S, L, R, sl, h, eo⟩ =>
  low_run R sl h (fun d S' v H' q R' k' dv => eo.rt d S' v H' q R' k' dv) (eo.x sl)
def sRetN : LTs := fun L _ S => L.rt .non S
theorem ls_retN : LS X W (.Return none pos) sRetN := ps_weak ps_retN fun D σ H ⟨F, ds, S, L, R, sl, h, eo⟩ => eo.rt .non S _ H h R Keep.refl (dat_non.mpr rfl)
/-- return of a list that was changed here and is changed no more -/
def sRetF (f : PX) : LTs := fun L ds S => ∃ a xs, f ds S = some (.adr a) ∧ S a = some (.lst xs) ∧ L.rt (.lst xs) (S.del a)
theorem ls_retF (he : LP X e f) : LS X W (.Return (some e) pos) (sRetF f) := ps_weak (ps_ret he) fun D σ H ⟨F, ds, S, L, R, sl, ⟨a, xs, e1, e2, h⟩, eo⟩ =>
  ⟨F, ds, S, _, R, sl, e1, fun v H' R' k' dv => by
    obtain ⟨vs, h1, h2⟩ := R'.mo e2
    refine eo.rt _ _ v H' h R'.del (k'.trans Keep.del) (dat_lst.mpr ⟨a, vs, dat_adr.mp dv, ⟨h1, del_same, (R'.1 a _ e2).1⟩, Dats.keep Keep.del _ h2⟩)⟩
def sIf (Tp : LTb) (U V : LTs) : LTs := fun L ds S => Tp ds S (fun b S' => if b = true then U L ds S' else V L ds S') (L.xc ds)
theorem ls_if {ab bb : List Stmt} (hc : LB X W c Tp) (ha : LSs X W ab U) (hb : LSs X W bb U2) : LS X W (.If c ab bb pos) (sIf Tp U U2) := ps_weak (ps_if hc ha hb) fun D σ H ⟨F, ds, S, L, R, sl, h, eo⟩ =>
  lowB_run R sl h (fun b S' H' q R' k' => by
    cases b with
    | true => exact iteT (lowS_run R' (sl.keep k') (show U L ds S' from q) (eo.keep k'))
    | false => exact iteF (lowS_run R' (sl.keep k') (show U2 L ds S' from q) (eo.keep k'))) (eo.x sl)

/-! ### targets -/
abbrev LTg := Dt → Env → Sto → (Env → Sto → Prop) → Prop
def lowG (K : PySem.W.Frag) (G : LTg) : TG := fun v σ H Q => ∃ F ds S x Nx, Rep K F S H ∧ Sl K F S H σ ds ∧ Dat K F S H x v ∧ G x ds S Nx ∧ ∀ ds' S' σ' H', Nx ds' S' → Rep K F S' H' → Keep F S H S' H' → Sl K F S' H' σ' ds' → Q σ' H'
def LG (X : Cx) (tg : Expr) (G : LTg) : Prop := PG X tg (lowG X.K G)
theorem pg_weak {tg : Expr} {t t' : TG} (h : PG X tg t) (k : ∀ v σ H Q, t' v σ H Q → t v σ H Q) : PG X tg t' := ⟨fun pins s σ H v u Q I r q => h.run pins s σ H v u Q I r (k _ _ _ _ q)⟩
def gNm (i : Nat) : LTg := fun x ds S Nx => Nx (ds.set i (some x)) S
theorem lg_name {i : Nat} {x : Str} (hN : X.N.Nodup) (hi : X.N[i]? = some x := by rfl) (hx : Loc X.env.scope x := by first | exact Or.inl rfl | exact Or.inr rfl) (hf : X.fn x = true ∨ X.env.scope.names.lookup x = some .local := by first | exact .inl rfl | exact .inr rfl | assumption) : LG X (.Name x pos) (gNm i) :=
  pg_weak (pg_name hN hi hx hf) fun v σ H Q ⟨F, ds, S, x, Nx, R, sl, dx, h, k⟩ => k _ S _ H h R Keep.refl (sl.set dx)
/-- self.f = .. -/
def setF (fs : List Dt) (i : Nat) (d : Dt) : List Dt := if i < fs.length then fs.set i d else fs ++ [d]
theorem putF_zip : ∀ {ks : List Str} {vs : List V} {i : Nat} {x : Str} {v : V}, ks.Nodup → ks[i]? = some x → i ≤ vs.length → vs.length ≤ ks.length → putF x v (ks.zip vs) = ks.zip (if i < vs.length then vs.set i v else vs ++ [v])
  | [], vs, i, x, v, _, h, _, _ => by simp at h
  | k :: ks, [], 0, x, v, _, h, _, _ => by
    simp at h
    subst h
    rw [if_neg (by simp), List.nil_append, List.zip_cons_cons, List.zip_nil_right, List.zip_nil_right]
    rfl
  | k :: ks, [], i + 1, x, v, _, h, h1, _ => by simp at h1
  | k :: ks, w :: vs, 0, x, v, _, h, _, _ => by
    simp at h
    subst h
    rw [List.zip_cons_cons, if_pos (by simp)]
    show (if k = k then (k, v) :: ks.zip vs else (k, w) :: putF k v (ks.zip vs)) = _
    rw [if_pos rfl]
    rfl
  | k :: ks, w :: vs, i + 1, x, v, nd, h, h1, h2 => by
    obtain ⟨n1, n2⟩ := List.nodup_cons.mp nd
    have hx : ks[i]? = some x := by simpa using h
    have ne : ¬ k = x := fun z => n1 (by rw [z]; exact List.mem_of_getElem? hx)
    have ih := putF_zip (v := v) n2 hx (by simpa using h1 : i ≤ vs.length) (by simpa using h2)
    rw [List.zip_cons_cons]
    show (if k = x then (k, v) :: ks.zip vs else (k, w) :: putF x v (ks.zip vs)) = _
    rw [if_neg ne, ih]
    by_cases hl : i < vs.length
    · rw [if_pos hl, if_pos (by simpa using hl)]
      rfl
    · rw [if_neg hl, if_neg (by simpa using hl)]
      rfl
theorem setF_ok {K : PySem.W.Frag} {F : Addr → Prop} {S : Sto} {H : Hp} {fs : List Dt} {vs : List V} {i : Nat} {d : Dt} {v : V} (h : Dats K F S H fs vs) (hd : Dat K F S H d v) : Dats K F S H (setF fs i d) (if i < vs.length then vs.set i v else vs ++ [v]) := by
  unfold setF
  rw [h.length]
  split
  · exact Dats.set i h hd
  · exact Dats.append h (Dats.cons hd Dats.nil)
theorem setF_len {fs : List Dt} {i : Nat} {d : Dt} {n : Nat} (h : fs.length ≤ n) (hi : i < n) (hl : i ≤ fs.length) : (setF fs i d).length ≤ n := by
  unfold setF
  split
  · rw [List.length_set]
    exact h
  · rw [List.length_append, List.length_singleton]
    omega
def gFld (k : Kls) (i : Nat) (f : PX) : LTg := fun x ds S Nx => ∃ a fs, f ds S = some (.adr a) ∧ S a = some (.ins k fs) ∧ i ≤ fs.length ∧ Nx ds (S.put a (.ins k (setF fs i x)))
theorem fld_set {K : PySem.W.Frag} {F : Addr → Prop} {S : Sto} {H : Hp} {k : Kls} {i : Nat} {x : Str} {a : Addr} {fs : List Dt} {d : Dt} {v : V} (hk : KOk K k) (hi : k.names[i]? = some x) (R : Rep K F S H) (e : S a = some (.ins k fs)) (hl : i ≤ fs.length) (dv : Dat K F S H d v) :
    ∃ dx gs, H a = some (.ins k.addr dx gs) ∧ gs.length < 1000 ∧ Rep K F (S.put a (.ins k (setF fs i d))) (upd H a (.ins k.addr dx (putF x v gs))) ∧ Keep F S H (S.put a (.ins k (setF fs i d))) (upd H a (.ins k.addr dx (putF x v gs))) := by
  obtain ⟨dx, vs, h1, h2, h3⟩ := R.mo e
  have hsz := hk.sz
  have hlen := h3.length
  have hin : i < k.names.length := (List.getElem?_eq_some_iff.mp hi).1
  refine ⟨dx, k.names.zip vs, h1, by rw [List.length_zip]; omega, ?_, R.kw e⟩
  rw [putF_zip hk.nd hi (by omega) (by omega)]
  exact R.put (R.1 a _ e).1 (R.kw e) ⟨dx, _, upd_same, setF_len h2 hin hl, setF_ok (Dats.keep (R.kw e) _ h3) (Dat.keep (R.kw e) _ dv)⟩
theorem pg_attr {o : Expr} {x : Str} {ta : TE} {p2 : Pos} (ho : PE X o ta) : PG X (.Attribute o x p2) (fun v σ H Q => ta σ H fun y H2 => ∃ a C dx fs, y = .ref a ∧ H2 a = some (.ins C dx fs) ∧ Cls X.K C ∧ NoAttr X.K C x ∧ fs.length < 1000 ∧ Q σ (upd H2 a (.ins C dx (putF x v fs)))) := by
  refine ⟨fun pins s σ H v u Q I r h => ?_⟩
  rw [assign_Attribute]
  refine wpAny_bind (wpAny_holding (thn (ho.run pins s σ H _ I h) fun ov s1 ⟨y, H1, I1, r1, a, C, dx, fs, ey, ea, cl, n, l, q⟩ => ?_))
  subst ey
  obtain rfl : ov = Value.ref a := r1
  refine wpAny_bind (wpAny_standAt (wpAny_bind (wpAny_holding ?_)))
  exact setattr_ok I1 ea cl n l r fun s3 I3 => wpAny_release ⟨σ, _, I3, q⟩
theorem lg_attr {k : Kls} {i : Nat} {x : Str} {p2 : Pos} (hk : KOk X.K k) (ho : LP X o f) (hi : k.names[i]? = some x := by rfl) : LG X (.Attribute o x p2) (gFld k i f) :=
  pg_weak (pg_attr ho) fun v σ H Q ⟨F, ds, S, d, Nx, R, sl, dx, ⟨a, fs, e1, e2, hl, q⟩, k'⟩ => ⟨F, ds, S, _, R, sl, e1, fun w H1 R1 k1 dw => by
    obtain ⟨dxx, gs, h1, h2, h3, h4⟩ := fld_set hk hi R1 e2 hl (Dat.keep k1 _ dx)
    exact ⟨a, k.addr, dxx, gs, dat_adr.mp dw, h1, hk.cl, hk.na x (List.mem_of_getElem? hi), h2, k' _ _ σ _ q h3 (k1.trans h4) (sl.keep (k1.trans h4))⟩⟩
/-- d["k"] = .. of known keys -/
def gKey (ks : List Key) (i : Nat) (f : PX) : LTg := fun x ds S Nx => ∃ a fs, f ds S = some (.adr a) ∧ S a = some (.dic ks fs) ∧ Nx ds (S.put a (.dic ks (fs.set i x)))
def rSetD : V → V → V → Hp → (Hp → Prop) → Prop := fun o i v H Q => ∃ a H', o = .ref a ∧ DPut H a i v H' ∧ Q H'
theorem set_dict (hu : X.A.units + 1 < cLine) : PSet X rSetD := fun pins s σ H o i v ov iv u Q I ro ri rv h => by
  obtain ⟨a, H', e, g, q⟩ := h
  subst e
  obtain rfl : ov = Value.ref a := ro
  exact d_setItem hu I g ri rv fun s' I' => ⟨H', I', q⟩
theorem putK_zip : ∀ {ks : List Key} {vs : List V} {i : Nat} {k : Key} {v : V}, ks.Nodup → ks[i]? = some k → ks.length = vs.length → putK (ks.zip vs) k v = ks.zip (vs.set i v) := by
  intro ks vs i k v nd h hl
  have key : ∀ {ks : List Key} {vs : List V} {i : Nat}, ks.Nodup → ks[i]? = some k → ks.length = vs.length → (ks.zip vs).any (fun kv => decide (kv.1 = k)) = true ∧ (ks.zip vs).map (fun kv => if kv.1 = k then (kv.1, v) else kv) = ks.zip (vs.set i v) := by
    intro ks
    induction ks with
    | nil => intro vs i _ h _; simp at h
    | cons k' ks ih =>
      intro vs i nd h hl
      obtain ⟨n1, n2⟩ := List.nodup_cons.mp nd
      cases vs with
      | nil => simp at hl
      | cons w vs =>
        cases i with
        | zero =>
          simp at h
          subst h
          refine ⟨by simp, ?_⟩
          rw [List.set_cons_zero, List.zip_cons_cons, List.zip_cons_cons, List.map_cons, if_pos rfl]
          congr 1
          have : ∀ p ∈ ks.zip vs, (if p.1 = k' then (p.1, v) else p) = p := fun p hp => if_neg fun e => n1 (by rw [← e]; exact (List.of_mem_zip hp).1)
          rw [List.map_congr_left this, List.map_id']
        | succ i =>
          have hk : ks[i]? = some k := by simpa using h
          have ne : ¬ k' = k := fun z => n1 (by rw [z]; exact List.mem_of_getElem? hk)
          obtain ⟨a1, a2⟩ := ih n2 hk (by simpa using hl)
          refine ⟨by rw [List.zip_cons_cons, List.any_cons, a1, Bool.or_true], ?_⟩
          rw [List.set_cons_succ, List.zip_cons_cons, List.zip_cons_cons, List.map_cons, if_neg ne, a2]
  obtain ⟨a1, a2⟩ := key nd h hl
  unfold putK
  first
    | (rw [if_pos a1]; exact a2)
    | (simp only [a1, if_true]; exact a2)
theorem lg_key {ks : List Key} {i : Nat} {x : Str} {j : Nat} {p2 p3 : Pos} (nd : ks.Nodup) (hz : ks.length < 1000) (hu : X.A.units + 1 < cLine) (ho : LP X o f) (hk : ks[i]? = some (Sum.inr x) := by rfl)
    (ha : ∀ v, assign (.Subscript o (.Constant (.str x) j p2) p3) X.env v = (do
      let ov ← holding [v] (eval o X.env)
      let iv ← holding [v, ov] (eval (.Constant (.str x) j p2) X.env)
      standAt p3
      holding [v, ov, iv] (setItem ov iv v)
      release [v, ov, iv] []) := by intro _; rfl) : LG X (.Subscript o (.Constant (.str x) j p2) p3) (gKey ks i f) :=
  pg_weak (pg_sub ho (pe_str (x := x)) (set_dict hu) ha) fun v σ H Q ⟨F, ds, S, d, Nx, R, sl, dx, ⟨a, fs, e1, e2, q⟩, k'⟩ => ⟨F, ds, S, _, R, sl, e1, fun w H1 R1 k1 dw => by
    obtain ⟨vs, h1, h2, h3⟩ := R1.mo e2
    have hl := h3.length
    refine ⟨a, _, dat_adr.mp dw, DPut.k (k := Sum.inr x) h1 ?_, ?_⟩
    · rw [List.length_zip]
      exact Nat.lt_of_lt_of_le (Nat.lt_of_le_of_lt (Nat.min_le_left _ _) hz) (by rw [sizeLine_eq]; decide)
    · rw [putK_zip nd hk (by omega)]
      exact k' _ _ σ _ q (R1.put (R1.1 a _ e2).1 (R1.kw e2) ⟨_, upd_same, by rw [List.length_set]; exact h2, Dats.set i (Dats.keep (R1.kw e2) _ h3) (Dat.keep (k1.trans (R1.kw e2)) _ dx)⟩) (k1.trans (R1.kw e2)) (sl.keep (k1.trans (R1.kw e2)))⟩
/-- xs[i] = .. -/
def gIx (f g : PX) : LTg := fun x ds S Nx => ∃ a xs i j, f ds S = some (.adr a) ∧ S a = some (.lst xs) ∧ g ds S = some (.int i) ∧ ixN xs.length i = some j ∧ Nx ds (S.put a (.lst (xs.set j x)))
theorem lg_ix {p3 : Pos} (ho : LP X o f) (hi : LP X b g)
    (ha : ∀ v, assign (.Subscript o b p3) X.env v = (do
      let ov ← holding [v] (eval o X.env)
      let iv ← holding [v, ov] (eval b X.env)
      standAt p3
      holding [v, ov, iv] (setItem ov iv v)
      release [v, ov, iv] []) := by intro _; rfl) : LG X (.Subscript o b p3) (gIx f g) :=
  pg_weak (pg_sub ho hi set_list ha) fun v σ H Q ⟨F, ds, S, d, Nx, R, sl, dx, ⟨a, xs, i, j, e1, e2, e3, e4, q⟩, k'⟩ => ⟨F, ds, S, _, R, sl, e1, fun w H1 R1 k1 dw => ⟨F, ds, S, _, R1, sl.keep k1, e3, fun w2 H2 R2 k2 dw2 => by
    obtain ⟨vs, h1, h3⟩ := R2.mo e2
    refine ⟨a, vs, i, j, dat_adr.mp dw, dat_int.mp dw2, h1, by rw [h3.length]; exact e4, ?_⟩
    have k3 := (k1.trans k2).trans (R2.kw e2 (m := .lst (xs.set j d)) (o := .lst (vs.set j v)))
    exact k' _ _ σ _ q (R2.put (R2.1 a _ e2).1 (R2.kw e2) ⟨_, upd_same, Dats.set j (Dats.keep (R2.kw e2) _ h3) (Dat.keep k3 _ dx)⟩) k3 (sl.keep k3)⟩⟩
/-- (t1, t2) = .. -/
def gTup2 (G1 G2 : LTg) : LTg := fun x ds S Nx => ∃ a b, dTup x = some [a, b] ∧ G1 a ds S fun ds1 S1 => G2 b ds1 S1 Nx
theorem lg_tup2 {t1 t2 : Expr} {G1 G2 : LTg} {k : Nat} (hc : X.calm = true) (h1 : LG X t1 G1) (h2 : LG X t2 G2) (hs1 : (assignEach [t1, t2] X.env).map (·.2) = assign t1 X.env :: (assignEach [t2] X.env).map (·.2) := by rfl) (hs2 : (assignEach [t2] X.env).map (·.2) = assign t2 X.env :: (assignEach [] X.env).map (·.2) := by rfl)
    (hn : (assignEach [t1, t2] X.env).length = 2 := by rfl) (hst : (assignEach [t1, t2] X.env).findIdx? (·.1) = none := by rfl) : LG X (.Tuple [t1, t2] k pos) (gTup2 G1 G2) :=
  pg_weak (pg_tup hc (pgs_cons h1 (pgs_cons h2 pgs_nil hs2) hs1) hn hst) fun v σ H Q ⟨F, ds, S, d, Nx, R, sl, dx, ⟨x, y, e, q⟩, k'⟩ => by
    obtain ⟨a, vs, e1, i, r⟩ := dTup_ok dx e
    obtain ⟨v1, v2, rfl, d1, d2⟩ := dats2 r
    exact ⟨a, _, e1, SqT.of i.1, rfl, v1, _, rfl, F, ds, S, x, _, R, sl, d1, q, fun ds1 S1 σ1 H1 q1 R1 k1 sl1 =>
      ⟨v2, _, rfl, F, ds1, S1, y, _, R1, sl1, Dat.keep k1 _ d2, q1, fun ds2 S2 σ2 H2 q2 R2 k2 sl2 => ⟨rfl, k' ds2 S2 σ2 H2 q2 R2 (k1.trans k2) sl2⟩⟩⟩
def gTup3 (G1 G2 G3 : LTg) : LTg := fun x ds S Nx => ∃ a b c, dTup x = some [a, b, c] ∧ G1 a ds S fun ds1 S1 => G2 b ds1 S1 fun ds2 S2 => G3 c ds2 S2 Nx
theorem dats3 {K : PySem.W.Frag} {F : Addr → Prop} {S : Sto} {H : Hp} {d d' d'' : Dt} {vs : List V} (h : Dats K F S H [d, d', d''] vs) : ∃ v w u, vs = [v, w, u] ∧ Dat K F S H d v ∧ Dat K F S H d' w ∧ Dat K F S H d'' u := by
  obtain ⟨v, r, e, h1, h2⟩ := dats_cons.mp h
  obtain ⟨w, u, e2, h3, h4⟩ := dats2 h2
  rw [e2] at e
  exact ⟨v, w, u, e, h1, h3, h4⟩
def sAsg (Te : LTe) (G : LTg) : LTs := fun L ds S => Te ds S (fun d S1 => G d ds S1 L.nx) (L.xc ds)
theorem ls_asg {tg : Expr} {G : LTg} (he : LE X W e Te) (hg : LG X tg G) (hs : swapsWithSole [tg] e pos.line X.env = pure false := by rfl) (hw : swappedStores [tg] e X.env = pure none := by rfl)
    (h1 : (assignEach [tg] X.env).map (·.2) = [assign tg X.env] := by rfl) : LS X W (.Assign [tg] e pos) (sAsg Te G) := ps_weak (ps_asg he hg hs hw h1) fun D σ H ⟨F, ds, S, L, R, sl, h, eo⟩ =>
  low_run R sl h (fun d S' v H' q R' k' dv => ⟨F, ds, S', d, _, R', sl.keep k', dv, q, fun ds2 S2 σ2 H2 q2 R2 k2 sl2 => eo.nx ds2 S2 σ2 H2 q2 R2 (k'.trans k2) sl2⟩) (eo.x sl)
theorem ls_set {i : Nat} {x : Str} (nd : X.N.Nodup) (he : LE X W e Te) (hi : X.N[i]? = some x := by rfl) (hx : Loc X.env.scope x := by first | exact Or.inl rfl | exact Or.inr rfl) (hs : swapsWith e (some (.Name x pos')) pos.line X.env = pure false := by rfl) (hf : X.fn x = true ∨ X.env.scope.names.lookup x = some .local := by first | exact .inl rfl | exact .inr rfl | assumption) :
    LS X W (.Assign [.Name x pos'] e pos) (sAsg Te (gNm i)) := ps_weak (ps_set nd hi hx he hs hf) fun D σ H ⟨F, ds, S, L, R, sl, h, eo⟩ =>
  low_run R sl h (fun d S' v H' q R' k' dv => eo.nx _ S' _ H' q R' k' ((sl.keep k').set dv)) (eo.x sl)
/-- a, b = x, y of local names -/
def sPar (i j : Nat) (TA : LTa) : LTs := fun L ds S => TA ds S (fun xs S1 => ∃ x y, xs = [x, y] ∧ L.nx ((ds.set i (some x)).set j (some y)) S1) (L.xc ds)
theorem ls_par {i j : Nat} {x y : Str} {px py pt : Pos} {kt k2 pt2} (cx : Cxt X W) (ha : LA X W [a, b] TA) (hij : i ≠ j := by decide) (hi : X.N[i]? = some x := by rfl) (hj : X.N[j]? = some y := by rfl)
    (hx : X.env.scope.names.lookup x = some .local := by rfl) (hy : X.env.scope.names.lookup y = some .local := by rfl)
    (hw : swappedStores [.Tuple [.Name x px, .Name y py] kt pt] (.Tuple [a, b] k2 pt2) X.env = pure (some [x, y]) := by rfl)
    (hs : swapsWithSole [.Tuple [.Name x px, .Name y py] kt pt] (.Tuple [a, b] k2 pt2) pos.line X.env = pure false := by rfl) :
    LS X W (.Assign [.Tuple [.Name x px, .Name y py] kt pt] (.Tuple [a, b] k2 pt2) pos) (sPar i j TA) := ps_weak (ps_par cx.calm cx.nd hi hj hij hx hy ha hw hs) fun D σ H ⟨F, ds, S, L, R, sl, h, eo⟩ =>
  lowA_run R sl h (fun xs S' vs H' ⟨d1, d2, e1, q⟩ R' k' dv => by
    subst e1
    obtain ⟨v, w, e2, h1, h2⟩ := dats2 dv
    exact ⟨v, w, e2, eo.nx _ S' _ H' q R' k' (((sl.keep k').set h1).set h2)⟩) (eo.x sl)
end
end Ax
set_option maxRecDepth 100000
set_option maxHeartbeats 4000000
/-! Ax: loops, comprehensions. -/
namespace Ax
open PySem PySem.Spec PyProof.Rows L2
/-! ### sources -/
/-- J yields xs in order, whatever is kept -/
def IterOf (K : PySem.W.Frag) (F : Addr → Prop) (S : Sto) (H : Hp) (xs : List Dt) (J : It) : Prop := ∃ vs, Dats K F S H xs vs ∧ ∀ S' H', Keep F S H S' H' →
  (∀ i, i < vs.length → J.go i H' ∧ ∀ x H'', J.yld i H' x H'' → H'' = H' ∧ vs[i]? = some x) ∧ ∀ i, vs.length ≤ i → J.stop i H'
def lowI (K : PySem.W.Frag) (W : WX) (T : LTa) : TI := fun σ H R => ∃ F ds S Φ Ψ, Rep K F S H ∧ Sl K F S H σ ds ∧ T ds S Φ Ψ ∧ (∀ xs S' J H', Φ xs S' → Rep K F S' H' → Keep F S H S' H' → IterOf K F S' H' xs J → R J H') ∧ XOk K W Ψ σ F S H
def LI (X : Cx) (W : WX) (tg iter : Expr) (T : LTa) : Prop := PI X tg iter (lowI X.K W T)
section
variable {X : Cx} {W : WX} {e a b c o tg iter : Expr} {es : List Expr} {st : Stmt} {rest sts body : List Stmt} {pos pos' : Pos} {f g : PX} {fa : PL} {Ta Tb Te : LTe} {Tp Tq : LTb} {TA TB : LTa} {T U U2 : LTs}
theorem pi_weak {t t' : TI} (h : PI X tg iter t) (k : ∀ σ H R, t' σ H R → t σ H R) : PI X tg iter t' := ⟨fun pins s σ H R I q => h.run pins s σ H R I (k _ _ _ q)⟩
theorem pi_two {l : Expr} {tl : TE} (hl : PE X l tl) : PI X tg l (fun σ H R => tl σ H fun v H1 => (∃ a, v = .ref a ∧ (∃ xs, SqL X.K H1 a xs) ∧ R (Itl X.K a) H1) ∨ (∃ a, v = .ref a ∧ (∃ xs, SqT X.K H1 a xs) ∧ R (Itt X.K a) H1)) := by
  refine ⟨fun pins s σ H R I h => ?_⟩
  refine thn (hl.run pins s σ H _ I h) fun v s1 ⟨x, H1, I1, r1, q1⟩ => ?_
  rcases q1 with ⟨a, e, ⟨xs, hq⟩, q⟩ | ⟨a, e, ⟨xs, hq⟩, q⟩
  · subst e
    cases r1
    obtain ⟨its, rv, p, hz⟩ := I1.list hq
    refine wpAny_pyIter_list p.isList ?_
    refine ⟨s1.heap.objs.size, [s1.heap.objs.size], _, _, H1, rfl, I1.kept (t' := s1.toks) fun b o e => Heap.get?_push_of_some _ e, turn_list a _, ⟨_, Heap.get?_push_size _ rfl, rfl, rfl⟩, fun b hb => ?_, q⟩
    have e : b = s1.heap.objs.size := by simpa using hb
    subst e
    exact I1.fpOk (Nat.le_refl _) (I1.hok.fresh (Nat.le_refl _))
  · subst e
    cases r1
    obtain ⟨its, rv, p, hz⟩ := I1.tuple hq
    refine wpAny_pyIter_tuple (show s1.heap.IsTuple a its.toArray from p) ?_
    refine ⟨s1.heap.objs.size, [s1.heap.objs.size], _, _, H1, rfl, I1.kept (t' := s1.toks) fun b o e => Heap.get?_push_of_some _ e, turn_tuple a _, ⟨_, Heap.get?_push_size _ rfl, rfl, rfl⟩, fun b hb => ?_, q⟩
    have e : b = s1.heap.objs.size := by simpa using hb
    subst e
    exact I1.fpOk (Nat.le_refl _) (I1.hok.fresh (Nat.le_refl _))
/-- a list or a tuple that does not change -/
def dFix : Dt → Option (List Dt)
  | .lst xs => some xs
  | .tup xs => some xs
  | .scr ns => some (ns.map .int)
  | _ => none
theorem iter_l {K : PySem.W.Frag} {F : Addr → Prop} {S : Sto} {H : Hp} {xs : List Dt} {vs : List V} {a : Addr} (h : Dats K F S H xs vs) (q : ∀ S' H', Keep F S H S' H' → SqL K H' a vs) : IterOf K F S H xs (Itl K a) :=
  ⟨vs, h, fun S' H' k => ⟨fun i hi => ⟨⟨vs, vs[i], q S' H' k, List.getElem?_eq_getElem hi⟩, fun x H'' y => ⟨y.1, y.2 vs (q S' H' k)⟩⟩, fun i hi => ⟨vs, q S' H' k, hi⟩⟩⟩
theorem iter_t {K : PySem.W.Frag} {F : Addr → Prop} {S : Sto} {H : Hp} {xs : List Dt} {vs : List V} {a : Addr} (h : Dats K F S H xs vs) (q : ∀ S' H', Keep F S H S' H' → SqT K H' a vs) : IterOf K F S H xs (Itt K a) :=
  ⟨vs, h, fun S' H' k => ⟨fun i hi => ⟨⟨vs, vs[i], q S' H' k, List.getElem?_eq_getElem hi⟩, fun x H'' y => ⟨y.1, y.2 vs (q S' H' k)⟩⟩, fun i hi => ⟨vs, q S' H' k, hi⟩⟩⟩
def tSeqI (T : LTe) : LTa := fun ds S Φ Ψ => T ds S (fun d S1 => ∃ xs, dFix d = some xs ∧ Φ xs S1) Ψ
theorem li_seq (h : LE X W e Te) : LI X W tg e (tSeqI Te) := pi_weak (pi_two h) fun σ H R0 ⟨F, ds, S, Φ, Ψ, R, sl, q, k, x⟩ =>
  low_run R sl q (fun d S1 v H1 ⟨xs, e1, q1⟩ R1 k1 d1 => by
    unfold dFix at e1
    split at e1
    · rename_i ys
      cases e1
      obtain ⟨a, vs, ev, i, r⟩ := dat_lst.mp d1
      exact .inl ⟨a, ev, ⟨vs, SqL.of i.1⟩, k _ _ _ _ q1 R1 k1 (iter_l r fun S' H' k' => SqL.of (i.keep k').1)⟩
    · rename_i ys
      cases e1
      obtain ⟨a, vs, ev, i, r⟩ := dat_tup.mp d1
      exact .inr ⟨a, ev, ⟨vs, SqT.of i.1⟩, k _ _ _ _ q1 R1 k1 (iter_t r fun S' H' k' => SqT.of (i.keep k').1)⟩
    · rename_i ns
      cases e1
      obtain ⟨a, ev, i⟩ := dat_scr.mp d1
      exact .inl ⟨a, ev, ⟨_, i.sq⟩, k _ _ _ _ q1 R1 k1 (iter_l (Dats.ints.mpr rfl) fun S' H' k' => (i.keep k').sq)⟩
    · cases e1) x
/-- range -/
def rng (lo : Int) (n : Nat) : List Dt := (List.range n).map fun (i : Nat) => .int (lo + (i : Int))
theorem dats_of {K : PySem.W.Frag} {F : Addr → Prop} {S : Sto} {H : Hp} {α : Type} {f : α → Dt} {g : α → V} (h : ∀ x, Dat K F S H (f x) (g x)) : ∀ l : List α, Dats K F S H (l.map f) (l.map g)
  | [] => Dats.nil
  | x :: l => Dats.cons (h x) (dats_of h l)
theorem iter_r {K : PySem.W.Frag} {F : Addr → Prop} {S : Sto} {H : Hp} {lo : Int} {n : Nat} : IterOf K F S H (rng lo n) (Itr lo n) :=
  ⟨(List.range n).map fun (i : Nat) => .int (lo + (i : Int)), dats_of (fun x => dat_int.mpr rfl) _, fun S' H' k => ⟨fun i hi => by
    rw [List.length_map, List.length_range] at hi
    refine ⟨hi, fun x H'' y => ⟨y.1, ?_⟩⟩
    rw [List.getElem?_map, List.getElem?_range hi, y.2]
    rfl, fun i hi => by
    rw [List.length_map, List.length_range] at hi
    exact hi⟩⟩
def tRng1 (TA : LTa) : LTa := fun ds S Φ Ψ => TA ds S (fun xs S1 => ∃ n : Int, xs = [.int n] ∧ (-(2 ^ 62) ≤ n ∧ n < 2 ^ 62) ∧ Φ (rng 0 n.toNat) S1) Ψ
theorem li_rng1 {p2 : Pos} (hm : X.mg "range" = none) (ha : LA X W [a] TA) (hg : Gl X "range" := by rfl) (hs : starEach [a] X.env = [(false, eval a X.env)] := by rfl) : LI X W tg (.Call (.Name "range" p2) [a] [] pos) (tRng1 TA) :=
  pi_weak (pi_range1 hg hm ha hs) fun σ H R0 ⟨F, ds, S, Φ, Ψ, R, sl, q, k, x⟩ => lowA_run R sl q (fun xs S1 vs H1 ⟨n, e1, hn, q1⟩ R1 k1 d1 => by
    subst e1
    obtain ⟨v, rfl, dv⟩ := dats1 d1
    exact ⟨n, by rw [dat_int.mp dv], hn.1, hn.2, k _ _ _ _ q1 R1 k1 iter_r⟩) x
def tRng2 (TA : LTa) : LTa := fun ds S Φ Ψ => TA ds S (fun xs S1 => ∃ m n : Int, xs = [.int m, .int n] ∧ (-(2 ^ 62) ≤ m ∧ m < 2 ^ 62 ∧ -(2 ^ 62) ≤ n ∧ n < 2 ^ 62) ∧ Φ (rng m (n - m).toNat) S1) Ψ
theorem li_rng2 {p2 : Pos} (hm : X.mg "range" = none) (ha : LA X W [a, b] TA) (hg : Gl X "range" := by rfl) (hs : starEach [a, b] X.env = [(false, eval a X.env), (false, eval b X.env)] := by rfl) (hs2 : starEach [b] X.env = [(false, eval b X.env)] := by rfl) : LI X W tg (.Call (.Name "range" p2) [a, b] [] pos) (tRng2 TA) :=
  pi_weak (pi_range2 hg hm ha hs hs2) fun σ H R0 ⟨F, ds, S, Φ, Ψ, R, sl, q, k, x⟩ => lowA_run R sl q (fun xs S1 vs H1 ⟨m, n, e1, hn, q1⟩ R1 k1 d1 => by
    subst e1
    obtain ⟨v, w, rfl, dv, dw⟩ := dats2 d1
    exact ⟨m, n, by rw [dat_int.mp dv, dat_int.mp dw], hn, k _ _ _ _ q1 R1 k1 iter_r⟩) x

/-! ### for -/
def forRun (G : LTg) (U : LTs) (L : LEnds) : List Dt → Env → Sto → Prop
  | [], ds, S => L.nx ds S
  | x :: r, ds, S => G x ds S fun ds' S' => U { L with nx := fun ds2 S2 => forRun G U L r ds2 S2, ct := fun ds2 S2 => forRun G U L r ds2 S2, bk := L.nx } ds' S'
def sFor (TA : LTa) (G : LTg) (U : LTs) : LTs := fun L ds S => TA ds S (fun xs S1 => forRun G U L xs ds S1) (L.xc ds)
theorem ls_for {G : LTg} (cx : Cxt X W) (hi : LI X W tg iter TA) (hg : LG X tg G) (hb : LSs X W body U) (hs : ∀ x, foldedSetIterable iter X.env x = pure x := by intro _; rfl) : LS X W (.For tg iter body [] pos) (sFor TA G U) :=
  ps_weak (ps_for cx.po cx.calm hi hg hb hs) fun D σ H ⟨F, ds, S, L, R, sl, h, eo⟩ => ⟨F, ds, S, _, _, R, sl, h, fun xs S1 J H1 q R1 k1 it => by
    obtain ⟨vs, dvs, go⟩ := it
    have hl := dvs.length
    refine ⟨fun i m σ2 H2 => m = vs.length - i ∧ i ≤ vs.length ∧ ∃ ds2 S2, Rep X.K F S2 H2 ∧ Keep F S1 H1 S2 H2 ∧ Sl X.K F S2 H2 σ2 ds2 ∧ forRun G U L (xs.drop i) ds2 S2, ⟨vs.length, by simp, Nat.zero_le _, ds, S1, R1, Keep.refl, sl.keep k1, q⟩, ?_⟩
    rintro i m σ2 H2 ⟨rfl, hi, ds2, S2, R2, k2, sl2, q2⟩
    by_cases hlt : i < vs.length
    · refine .inr ⟨((go S2 H2 k2).1 i hlt).1, fun σ' H' => ∃ ds' S', Rep X.K F S' H' ∧ Keep F S1 H1 S' H' ∧ Sl X.K F S' H' σ' ds' ∧ forRun G U L (xs.drop (i + 1)) ds' S', fun σ' H' ⟨ds', S', a1, a2, a3, a4⟩ => ⟨vs.length - (i + 1), by omega, rfl, hlt, ds', S', a1, a2, a3, a4⟩, fun x H' y => ?_⟩
      obtain ⟨e1, e2⟩ := ((go S2 H2 k2).1 i hlt).2 x H' y
      subst e1
      obtain ⟨d, e3, e4⟩ := dvs.of_get e2
      have e5 : xs.drop i = d :: xs.drop (i + 1) := by
        obtain ⟨h1, h2⟩ := List.getElem?_eq_some_iff.mp e3
        rw [List.drop_eq_getElem_cons h1, h2]
      rw [e5] at q2
      refine ⟨F, ds2, S2, d, _, R2, sl2, Dat.keep k2 _ e4, q2, fun ds3 S3 σ3 H3 q3 R3 k3 sl3 => ?_⟩
      refine lowS_run R3 sl3 q3 ⟨fun ds' S' σ' H' a b c d => ⟨ds', S', b, (k2.trans k3).trans c, d, a⟩, fun d S' v H' a b c e => eo.rt d S' v H' a b (k1.trans (k2.trans (k3.trans c))) e, fun ds' S' σ' H' a b c d => eo.nx ds' S' σ' H' a b (k1.trans (k2.trans (k3.trans c))) d,
        fun ds' S' σ' H' a b c d => ⟨ds', S', b, (k2.trans k3).trans c, d, a⟩, fun ds' x S' cls da σ' H' a b c d e => eo.xc ds' x S' cls da σ' H' a b (k1.trans (k2.trans (k3.trans c))) d e⟩
    · have e : i = vs.length := by omega
      subst e
      rw [hl, List.drop_length] at q2
      exact .inl ⟨(go S2 H2 k2).2 _ (Nat.le_refl _), eo.nx ds2 S2 σ2 H2 q2 R2 (k1.trans k2) sl2⟩, eo.x sl⟩
/-! ### while -/
def sWhile (Tp : LTb) (U : LTs) : LTs := fun L ds S => ∃ P : Nat → Env → Sto → Prop, (∃ m, P m ds S) ∧ ∀ m ds S, P m ds S →
  Tp ds S (fun b S1 => if b = true then U { L with nx := fun ds' S' => ∃ m', m' < m ∧ P m' ds' S', ct := fun ds' S' => ∃ m', m' < m ∧ P m' ds' S', bk := L.nx } ds S1 else L.nx ds S1) (L.xc ds)
theorem ls_while (cx : Cxt X W) (hc : LB X W c Tp) (hb : LSs X W body U) : LS X W (.While c body [] pos) (sWhile Tp U) := ps_weak (ps_while cx.po hc hb) fun D σ H ⟨F, ds, S, L, R, sl, ⟨P, ⟨m0, p0⟩, turn⟩, eo⟩ => by
  refine ⟨fun m σ2 H2 => ∃ ds2 S2, Rep X.K F S2 H2 ∧ Keep F S H S2 H2 ∧ Sl X.K F S2 H2 σ2 ds2 ∧ P m ds2 S2, ⟨m0, ds, S, R, Keep.refl, sl, p0⟩, ?_⟩
  rintro m σ2 H2 ⟨ds2, S2, R2, k2, sl2, p2⟩
  have eo2 := eo.keep k2
  refine lowB_run R2 sl2 (turn m ds2 S2 p2) (fun b S3 H3 q3 R3 k3 => ?_) (eo2.x sl2)
  cases b with
  | true =>
    refine iteT ⟨fun σ' H' => ∃ m', m' < m ∧ ∃ ds' S', Rep X.K F S' H' ∧ Keep F S H S' H' ∧ Sl X.K F S' H' σ' ds' ∧ P m' ds' S', fun σ' H' h => h, ?_⟩
    refine lowS_run R3 (sl2.keep k3) (show U _ ds2 S3 from q3) ⟨fun ds' S' σ' H' ⟨m', hm, p'⟩ b c d => ⟨m', hm, ds', S', b, (k2.trans k3).trans c, d, p'⟩, (eo2.keep k3).rt, (eo2.keep k3).nx, fun ds' S' σ' H' ⟨m', hm, p'⟩ b c d => ⟨m', hm, ds', S', b, (k2.trans k3).trans c, d, p'⟩, (eo2.keep k3).xc⟩
  | false => exact iteF (eo2.nx ds2 S3 σ2 H3 q3 R3 k3 (sl2.keep k3))
end
end Ax
set_option maxRecDepth 100000
set_option maxHeartbeats 4000000
/-! Ax: comprehensions. -/
namespace Ax
open PySem PySem.Spec PyProof.Rows L2
def lcRun (c : Dt → Option Bool) (t : Dt → Option Dt) : List Dt → Option (List Dt)
  | [] => some []
  | x :: r => match c x with
    | some true => (t x).bind fun y => (lcRun c t r).map (y :: ·)
    | some false => lcRun c t r
    | none => none
def wipeD (ds : Env) : List Nat → Env
  | [] => ds
  | v :: vs => (wipeD ds vs).set v none
theorem Sl.wipe {K : PySem.W.Frag} {F : Addr → Prop} {S : Sto} {H : Hp} {σ : L2.St} {ds : Env} (h : Sl K F S H σ ds) : ∀ vs : List Nat, Sl K F S H (L2.wipe σ vs) (wipeD ds vs)
  | [] => h
  | v :: vs => (Sl.wipe h vs).gone
def pLc (src : PL) (vs : List Nat) (G : Dt → Env → Option Env) (c : PB) (t : PX) : PX := fun ds S => (src ds S).bind fun xs => if xs.length < 1000000 then
  (lcRun (fun x => (G x (wipeD ds vs)).bind fun e => c e S) (fun x => (G x (wipeD ds vs)).bind fun e => t e S) xs).map .lst else none
def bYes : PB := fun _ _ => some true
/-- a target of names, by what it does to the slots -/
def TgOk (K : PySem.W.Frag) (g : TG) (vs : List Nat) (G : Dt → Env → Option Env) : Prop := ∀ (F : Addr → Prop) S H x v σ ds ds' (Q : L2.St → Hp → Prop), Rep K F S H → Sl K F S H (L2.wipe σ vs) ds → Dat K F S H x v → G x ds = some ds' →
  (∀ σ', Sl K F S H σ' ds' → L2.wipe σ' vs = L2.wipe σ vs → Q σ' H) → g v (L2.wipe σ vs) H Q
def G1 (i : Nat) : Dt → Env → Option Env := fun x ds => some (ds.set i (some x))
def G2 (i j : Nat) : Dt → Env → Option Env := fun x ds => match x with
  | .tup [a, b] => some ((ds.set i (some a)).set j (some b))
  | _ => none
theorem tg1 {K : PySem.W.Frag} {i : Nat} : TgOk K (gName i) [i] (G1 i) := fun F S H x v σ ds ds' Q R sl dx e k => by
  cases e
  refine k _ (sl.set dx) ?_
  show (((L2.wipe σ []).set i none).set i (some v)).set i none = (L2.wipe σ []).set i none
  rw [List.set_set, List.set_set]
theorem tg2 {K : PySem.W.Frag} {i j : Nat} (hij : i ≠ j) : TgOk K (gTup K 2 (gCons (gName i) (gCons (gName j) gNil))) [i, j] (G2 i j) := fun F S H x v σ ds ds' Q R sl dx e k => by
  unfold G2 at e
  split at e
  · rename_i a b
    cases e
    obtain ⟨p, vs, e1, i1, r⟩ := dat_tup.mp dx
    obtain ⟨v1, v2, rfl, d1, d2⟩ := dats2 r
    refine ⟨p, _, e1, SqT.of i1.1, rfl, v1, _, rfl, v2, _, rfl, rfl, k _ ((sl.set d1).set d2) ?_⟩
    show (((((σ.set j none).set i none).set i (some v1)).set j (some v2)).set j none).set i none = (σ.set j none).set i none
    rw [List.set_set, List.set_set, List.set_comm _ _ (Ne.symm hij), List.set_set, List.set_comm _ _ hij, List.set_set]
  · cases e
def LPTs (X : Cx) (ifs : List Expr) (c : PB) : Prop := PTs X ifs (lowPB X.K c)
section
variable {X : Cx} {W : WX} {e a b c o tg iter elt : Expr} {ifs : List Expr} {pos pos' : Pos}
theorem lpts_nil : LPTs X [] bYes := ⟨fun pins s σ H Q I ⟨F, ds, S, b, R, sl, hb, k⟩ => (pts_nil (X := X)).run pins s σ H Q I (by cases hb; exact k H R Keep.refl)⟩
theorem lpts_one {p : PB} (h : LPB X c p) : LPTs X [c] p := pts_one h
theorem lp_lc {scope : Scope} {own : List (Str × Nat)} {g : TG} {G : Dt → Env → Option Env} {src : PL} {cc : PB} {t : PX} (hc : X.calm = true) (hN : X.N.Nodup) (hi : LI X W0 tg iter (ofL src)) (hG : TgOk X.K g (own.map (·.2)) G)
    (hg : ∀ (s : Shared) (H : Hp) (C : Addr) (cl : List (Str × Addr)) (fp : List Addr), PG (X.blk s H scope (compEnvC scope cl C X.env) fp) tg g)
    (ht : ∀ (s : Shared) (H : Hp) (C : Addr) (cl : List (Str × Addr)) (fp : List Addr), LPTs (X.blk s H scope (compEnvC scope cl C X.env) fp) ifs cc)
    (he : ∀ (s : Shared) (H : Hp) (C : Addr) (cl : List (Str × Addr)) (fp : List Addr), LP (X.blk s H scope (compEnvC scope cl C X.env) fp) elt t)
    (ok : BlkOk X.N X.env.scope scope own) (hs : ∀ x, foldedSetIterable iter X.env x = pure x := by intro _; rfl) : LP X (.ListComp elt [⟨tg, iter, ifs, 0⟩] scope pos) (pLc src (own.map (·.2)) G cc t) :=
  pe_weak (pe_lc (tt := lowPB X.K cc) (te := lowP X.K t) hc hN hi ok hg ht he hs) fun σ H Q ⟨F, ds, S, d, R, sl, hd, k⟩ => by
  unfold pLc at hd
  cases hx : src ds S with
  | none =>
    rw [hx] at hd
    cases hd
  | some xs =>
    rw [hx, Option.bind_some] at hd
    split at hd
    · rename_i hlen
      cases hy : lcRun (fun x => (G x (wipeD ds (own.map (·.2)))).bind fun e => cc e S) (fun x => (G x (wipeD ds (own.map (·.2)))).bind fun e => t e S) xs with
      | none =>
        rw [hy] at hd
        cases hd
      | some ys =>
        rw [hy] at hd
        cases hd
        refine ⟨F, ds, S, fun zs S' => zs = xs ∧ S' = S, fun _ _ => False, R, sl, ⟨xs, hx, rfl, rfl⟩, fun zs S' J H1 ⟨e1, e2⟩ R1 k1 it => ?_, fun _ _ _ _ _ z => z.elim⟩
        subst e1 e2
        intro D hD
        obtain ⟨vs, dvs, go⟩ := it
        have hvl := dvs.length
        have nD : ∀ {a : Addr} {o : HO}, H1 a = some o → a ≠ D := fun h => ne_of_none h hD
        refine ⟨fun i m H2 => m = vs.length - i ∧ i ≤ vs.length ∧ ∃ acc rst ws, Rep X.K (fun a => F a ∨ a = D) S' H2 ∧ Keep F S' H1 S' H2 ∧ H2 D = some (.lst ws) ∧ Dats X.K (fun a => F a ∨ a = D) S' H2 acc ws ∧
          lcRun (fun x => (G x (wipeD ds (own.map (·.2)))).bind fun e => cc e S') (fun x => (G x (wipeD ds (own.map (·.2)))).bind fun e => t e S') (zs.drop i) = some rst ∧ ys = acc ++ rst ∧ acc.length ≤ i,
          ⟨vs.length, by simp, Nat.zero_le _, [], ys, [], ?_, R1.kn hD, upd_same, Dats.nil, hy, rfl, Nat.le_refl _⟩, ?_⟩
        · refine ⟨fun a m e => ?_, fun a ha => ?_⟩
          · obtain ⟨o, ho⟩ := (R1.mo e).here
            exact ⟨fun z => z.elim (R1.1 a m e).1 (nD ho), (R1.mo e).move (fun b u h1 h2 h3 => ⟨by rw [upd_ne (nD h1)]; exact h1, h2, fun z => z.elim h3 (nD h1)⟩) (upd_ne (nD ho))⟩
          · rcases ha with ha | ha
            · obtain ⟨o, ho⟩ := R1.2 a ha
              exact ⟨o, by rw [upd_ne (nD ho)]; exact ho⟩
            · rw [ha]
              exact ⟨_, upd_same⟩
        · rintro i m H2 ⟨rfl, hi2, acc, rst, ws, R2, k2, hDw, dacc, hrun, hys, hal⟩
          have mvD : Mv F S' H1 (fun a => F a ∨ a = D) S' H2 := fun b u h1 h2 h3 => ⟨(k2.1 b u h1 h2 h3).1, h2, fun z => z.elim h3 (nD h1)⟩
          by_cases hlt : i < vs.length
          · refine .inr ⟨((go S' H2 k2).1 i hlt).1, fun H' => ∃ acc rst ws, Rep X.K (fun a => F a ∨ a = D) S' H' ∧ Keep F S' H1 S' H' ∧ H' D = some (.lst ws) ∧ Dats X.K (fun a => F a ∨ a = D) S' H' acc ws ∧
              lcRun (fun x => (G x (wipeD ds (own.map (·.2)))).bind fun e => cc e S') (fun x => (G x (wipeD ds (own.map (·.2)))).bind fun e => t e S') (zs.drop (i + 1)) = some rst ∧ ys = acc ++ rst ∧ acc.length ≤ i + 1,
              fun H' ⟨a1, a2, a3, b1, b2, b3, b4, b5, b6, b7⟩ => ⟨vs.length - (i + 1), by omega, rfl, hlt, a1, a2, a3, b1, b2, b3, b4, b5, b6, b7⟩, fun x H' y => ?_⟩
            obtain ⟨e1, e2⟩ := ((go S' H2 k2).1 i hlt).2 x H' y
            subst e1
            obtain ⟨dd, e3, e4⟩ := dvs.of_get e2
            have e5 : zs.drop i = dd :: zs.drop (i + 1) := by
              obtain ⟨h1, h2⟩ := List.getElem?_eq_some_iff.mp e3
              rw [List.drop_eq_getElem_cons h1, h2]
            rw [e5] at hrun
            have e4' := Dat.move mvD _ e4
            have sl2 : Sl X.K (fun a => F a ∨ a = D) S' H' σ ds := ⟨sl.1, fun j u hu => by
              obtain ⟨v, h1, h2⟩ := sl.2 j u hu
              exact ⟨v, h1, Dat.move mvD _ (Dat.keep k1 _ h2)⟩⟩
            unfold lcRun at hrun
            cases hG2 : G dd (wipeD ds (own.map (·.2))) with
            | none =>
              rw [hG2] at hrun
              cases hrun
            | some de =>
              rw [hG2] at hrun
              simp only [Option.bind_some] at hrun
              refine hG _ S' H' dd x σ _ de _ R2 (sl2.wipe _) e4' hG2 fun σ' sl3 hw => ⟨hw, ?_⟩
              split at hrun
              · rename_i hc1
                refine ⟨_, de, S', true, R2, sl3, hc1, fun H3 R3 k3 => ?_⟩
                cases ht1 : t de S' with
                | none =>
                  rw [ht1] at hrun
                  cases hrun
                | some y =>
                  rw [ht1, Option.bind_some] at hrun
                  cases hr2 : lcRun (fun x => (G x (wipeD ds (own.map (·.2)))).bind fun e => cc e S') (fun x => (G x (wipeD ds (own.map (·.2)))).bind fun e => t e S') (zs.drop (i + 1)) with
                  | none =>
                    rw [hr2] at hrun
                    cases hrun
                  | some rst2 =>
                    rw [hr2] at hrun
                    cases hrun
                    refine iteT ⟨_, de, S', y, R3, sl3.keep k3, ht1, fun vy H4 R4 k4 dy => ⟨ws, (k4.2 D (.inr rfl)).trans ((k3.2 D (.inr rfl)).trans hDw), ?_, acc ++ [y], rst2, ws ++ [vy], ?_, ?_, upd_same, ?_, rfl, ?_, ?_⟩⟩
                    · have := dacc.length
                      rw [sizeLine_eq]
                      omega
                    · refine ⟨fun a m e => ?_, fun a ha => ?_⟩
                      · have nf := (R4.1 a m e).1
                        have na : a ≠ D := fun z => nf (.inr z)
                        exact ⟨nf, (R4.mo e).move (fun b u h1 h2 h3 => ⟨by rw [upd_ne (fun z => h3 (.inr z))]; exact h1, h2, h3⟩) (upd_ne na)⟩
                      · rcases ha with ha | ha
                        · obtain ⟨o, ho⟩ := R4.2 a (.inl ha)
                          by_cases na : a = D
                          · rw [na]
                            exact ⟨_, upd_same⟩
                          · exact ⟨o, by rw [upd_ne na]; exact ho⟩
                        · rw [ha]
                          exact ⟨_, upd_same⟩
                    · refine ⟨fun a o h1 h2 h3 => ?_, fun a ha => ?_⟩
                      · have z := mvD a o h1 h2 h3
                        have z2 := k3.1 a o z.1 z.2.1 z.2.2
                        have z3 := k4.1 a o z2.1 z2.2 z.2.2
                        exact ⟨by rw [upd_ne (nD h1)]; exact z3.1, z3.2⟩
                      · have na : a ≠ D := by
                          obtain ⟨o, ho⟩ := R1.2 a ha
                          exact nD ho
                        rw [upd_ne na]
                        exact (k4.2 a (.inl ha)).trans ((k3.2 a (.inl ha)).trans (k2.2 a ha))
                    · exact Dats.move (fun b u h1 h2 h3 => ⟨by rw [upd_ne (fun z => h3 (.inr z))]; exact h1, h2, h3⟩) _ (Dats.append (Dats.keep (k3.trans k4) _ dacc) (Dats.cons dy Dats.nil))
                    · rw [hys, List.append_assoc, List.singleton_append]
                    · rw [List.length_append, List.length_singleton]
                      omega
              · rename_i hc1
                refine ⟨_, de, S', false, R2, sl3, hc1, fun H3 R3 k3 => ?_⟩
                refine iteF ⟨acc, rst, ws, R3, ⟨fun a o h1 h2 h3 => ?_, fun a ha => ?_⟩, (k3.2 D (.inr rfl)).trans hDw, Dats.keep k3 _ dacc, hrun, hys, Nat.le_succ_of_le hal⟩
                · have z := mvD a o h1 h2 h3
                  exact k3.1 a o z.1 z.2.1 z.2.2
                · exact (k3.2 a (.inl ha)).trans (k2.2 a ha)
              · cases hrun
          · have e : i = vs.length := by omega
            subst e
            rw [hvl, List.drop_length] at hrun
            cases hrun
            rw [List.append_nil] at hys
            subst hys
            refine .inl ⟨(go S' H2 k2).2 _ (Nat.le_refl _), k _ H2 ⟨fun a m e => ?_, fun a ha => R2.2 a (.inl ha)⟩ (k1.trans k2) ?_⟩
            · exact ⟨fun z => (R2.1 a m e).1 (.inl z), (R2.mo e).move (fun b u h1 h2 h3 => ⟨h1, h2, fun z => h3 (.inl z)⟩) rfl⟩
            · exact dat_lst.mpr ⟨D, ws, rfl, ⟨hDw, R1.free hD, R1.nf hD⟩, Dats.move (fun b u h1 h2 h3 => ⟨h1, h2, fun z => h3 (.inl z)⟩) _ dacc⟩
    · cases hd
end
end Ax
set_option maxRecDepth 100000
set_option maxHeartbeats 4000000
/-! Ax: functions, calls, methods, new objects. -/
namespace Ax
open PySem PySem.Spec PyProof.Rows L2
abbrev LSp := List Dt → Sto → Kt → Xt → Prop
def lowSp (K : PySem.W.Frag) (P : LSp) : Sp := fun vs H Q E => ∃ F ds S Φ Ψ, Rep K F S H ∧ Dats K F S H ds vs ∧ P ds S Φ Ψ ∧ (∀ d S' v H', Φ d S' → Rep K F S' H' → Keep F S H S' H' → Dat K F S' H' d v → Q v H') ∧
  ∀ x S' cls da H', Ψ x S' → Rep K F S' H' → Keep F S H S' H' → ExOk K F S' H' x cls da → E cls da H'
structure Fn (P : Program) (w : World) (K : PySem.W.Frag) (mg : Str → Option Value) (base : Heap) (k : Nat) (f : Addr) (sp : LSp) : Prop where
  ex : ∃ fd ps, FnOk P w K mg base (L2.CX P w) k f fd ps (lowSp K sp) ∧ Binds K fd ps []
  kp : PySem.W.keepIn K (.ref f) = true
/-- a function of its arguments, and of what the store holds -/
def pureSp (g : List Dt → Sto → Option Dt) : LSp := fun xs S Φ _ => ∃ d, g xs S = some d ∧ Φ d S
section
variable {X : Cx} {W : WX} {e a b c o : Expr} {es : List Expr} {pos : Pos} {fa : PL} {TA TB : LTa} {sp : LSp} {k j : Nat} {f C : Addr} {x m : Str}
def tCallF (sp : LSp) (TA : LTa) : LTe := fun ds S Φ Ψ => TA ds S (fun xs S1 => sp xs S1 Φ Ψ) Ψ
theorem le_call {p2 : Pos} (G : Fn X.prog X.w X.K X.mg X.base k f sp) (tk : Takes X W) (hr : Room j X.A) (hk : k ≤ j) (hm : X.mg x = some (.ref f)) (ha : LA X W (e :: es) TA) (hg : Gl X x := by rfl)
    (hdb : (x == ("__debug__" : Str)) = false := by decide) (he : starEach (e :: es) X.env = (false, eval e X.env) :: starEach es X.env := by rfl) (hpl : (backTo pos (starEach es X.env)).any (·.1) = false := by rfl) : LE X W (.Call (.Name x p2) (e :: es) [] pos) (tCallF sp TA) := by
  obtain ⟨fd, ps, F0, hb⟩ := G.ex
  exact pe_weak (pe_callS (E := WE W) F0 (hr.mono hk) hg hm G.kp hb (fun σ => passAt tk σ) ha hdb he hpl) fun σ H Q ⟨F, ds, S, Φ, Ψ, R, sl, q, k, x⟩ =>
    lowA_run R sl q (fun xs S1 vs H1 q1 R1 k1 d1 => ⟨F, xs, S1, Φ, Ψ, R1, d1, q1, fun d S' v H' a b c e => k d S' v H' a b (k1.trans c) e, fun x' S' cls da H' a b c e => x x' S' cls da H' a b (k1.trans c) e⟩) x
def pFn (g : List Dt → Sto → Option Dt) (fa : PL) : PX := fun ds S => (fa ds S).bind fun xs => g xs S
theorem lp_call {p2 : Pos} {g : List Dt → Sto → Option Dt} (G : Fn X.prog X.w X.K X.mg X.base k f (pureSp g)) (hr : Room j X.A) (hk : k ≤ j) (hm : X.mg x = some (.ref f)) (ha : LPA X (e :: es) fa) (hg : Gl X x := by rfl)
    (hdb : (x == ("__debug__" : Str)) = false := by decide) (he : starEach (e :: es) X.env = (false, eval e X.env) :: starEach es X.env := by rfl) (hpl : (backTo pos (starEach es X.env)).any (·.1) = false := by rfl) : LP X (.Call (.Name x p2) (e :: es) [] pos) (pFn g fa) := by
  refine pe_weak (le_call (W := W0) G takes0 hr hk hm (la_p ha) hg hdb he hpl) fun σ H Q ⟨F, ds, S, d, R, sl, hd, kk⟩ => ?_
  unfold pFn at hd
  cases hx : fa ds S with
  | none =>
    rw [hx] at hd
    cases hd
  | some xs =>
    rw [hx, Option.bind_some] at hd
    exact low_run (Φ := fun d' S' => d' = d ∧ S' = S) (Ψ := fun _ _ => False) R sl ⟨xs, hx, d, hd, rfl, rfl⟩ (fun d' S' v H' ⟨e1, e2⟩ R' k' dv => by
      subst e1 e2
      exact kk v H' R' k' dv) fun _ _ _ _ _ z => z.elim
/-! o.m(e, ..) -/
def tMethS (C : Addr) (m : Str) (sp : Sp) (E : L2.St → XK) (ta : TE) (t : L2.TA) : TE := fun σ H Q => ta σ H fun x H1 => ∃ a dx fs, x = .ref a ∧ H1 a = some (.ins C dx fs) ∧ fs.lookup m = none ∧ t σ H1 fun vs H2 => sp (x :: vs) H2 Q (E σ)
theorem pe_methS {CX : CXT} {fd : FuncData} {ps : List Str} {sp : Sp} {E : L2.St → XK} {apos : Pos} {ta : TE} {t : L2.TA} {pl : Sem Bool} (he : PE X o ta) (c : Cls X.K C) (hm : Meth X.K C m f)
    (F : FnOk X.prog X.w X.K X.mg X.base CX k f fd ps sp) (hr : Room k X.A) (hb : Binds X.K fd ps []) (hx : ∀ σ, PassesAt CX X σ (E σ)) (ha : PA X (e :: es) t)
    (hst : starEach (e :: es) X.env = (false, eval e X.env) :: starEach es X.env := by rfl) (hpl : (backTo pos (starEach es X.env)).any (·.1) = false := by rfl)
    (ht : eval (.Call (.Attribute o m apos) (e :: es) [] pos) X.env = (do
      let ov ← eval o X.env
      standAt apos.atName
      let (f, first) ← holding [ov] (getMethod ov m pl)
      callWith pos f first (backTo pos (starEach (e :: es) X.env)) (backToKw pos (keywordEach [] X.env))) := by rfl) :
    PE X (.Call (.Attribute o m apos) (e :: es) [] pos) (tMethS C m sp E ta t) := by
  refine ⟨fun pins s σ H Q I h => ?_⟩
  refine PySem.W.methodCall_KW (pl := pl) (thn (he.run pins s σ H _ I h) fun u s1 ⟨x, H1, I1, rx, a, dx, fs, ex, ea, l, q⟩ => ?_) ht
  subst ex
  obtain rfl : u = Value.ref a := rx
  refine getmeth_ok I1 ea c hm l ?_
  refine PySem.W.callWith_K (first := [.ref a]) (h₀ := X.base) I.ok.mod.kin hm.kp (thn (ha.run pos pins s1 σ H1 _ I1 q) fun us s2 ⟨vs, H2, I2, r, q2⟩ => ⟨I2.kIn, ?_⟩) hst hpl
  exact run_fnS (us := .ref a :: us) (vs := .ref a :: vs) F hr hb (hx σ) I2 (.cons rfl r) q2
theorem pe_methS0 {CX : CXT} {fd : FuncData} {ps : List Str} {sp : Sp} {E : L2.St → XK} {apos : Pos} {ta : TE} {pl : Sem Bool} (he : PE X o ta) (c : Cls X.K C) (hm : Meth X.K C m f)
    (F : FnOk X.prog X.w X.K X.mg X.base CX k f fd ps sp) (hr : Room k X.A) (hb : Binds X.K fd ps []) (hx : ∀ σ, PassesAt CX X σ (E σ))
    (ht : eval (.Call (.Attribute o m apos) [] [] pos) X.env = (do
      let ov ← eval o X.env
      standAt apos.atName
      let (f, first) ← holding [ov] (getMethod ov m pl)
      callWith pos f first (backTo pos (starEach [] X.env)) (backToKw pos (keywordEach [] X.env))) := by rfl) :
    PE X (.Call (.Attribute o m apos) [] [] pos) (tMethS C m sp E ta tNil) := by
  refine ⟨fun pins s σ H Q I h => ?_⟩
  refine PySem.W.methodCall_KW (pl := pl) (thn (he.run pins s σ H _ I h) fun u s1 ⟨x, H1, I1, rx, a, dx, fs, ex, ea, l, q⟩ => ?_) ht
  subst ex
  obtain rfl : u = Value.ref a := rx
  refine getmeth_ok I1 ea c hm l ?_
  exact PySem.W.callWith_K0 (first := [.ref a]) I1.kIn hm.kp (run_fnS (us := [.ref a]) (vs := [.ref a]) F hr hb (hx σ) I1 (.cons rfl .nil) q)
def tMethF (kl : Kls) (sp : LSp) (fo : PX) (TA : LTa) : LTe := fun ds S Φ Ψ => ∃ a fs, fo ds S = some (.adr a) ∧ S a = some (.ins kl fs) ∧ TA ds S (fun xs S1 => sp (.adr a :: xs) S1 Φ Ψ) Ψ
theorem meth_low {kl : Kls} {fo : PX} (hno : ¬ m ∈ kl.names) {σ : L2.St} {H : Hp} {Q : VK} (h : low X.K W (tMethF kl sp fo TA) σ H Q) : tMethS kl.addr m (lowSp X.K sp) (WE W) (lowP X.K fo) (lowA X.K W TA) σ H Q := by
  obtain ⟨F, ds, S, Φ, Ψ, R, sl, ⟨a, fs, e1, e2, q⟩, k, x⟩ := h
  refine ⟨F, ds, S, _, R, sl, e1, fun v H1 R1 k1 d1 => ?_⟩
  obtain ⟨dx, vs, h1, h2, h3⟩ := R1.mo e2
  refine ⟨a, dx, _, dat_adr.mp d1, h1, zip_no hno, ?_⟩
  refine lowA_run R1 (sl.keep k1) q (fun xs S2 ws H2 q2 R2 k2 d2 => ⟨F, _, S2, Φ, Ψ, R2, Dats.cons (Dat.keep k2 _ d1) d2, q2, fun d S' v H' a b c e => k d S' v H' a b ((k1.trans k2).trans c) e, fun x' S' cls da H' a b c e => x x' S' cls da H' a b ((k1.trans k2).trans c) e⟩) (x.keep k1)
theorem le_meth {kl : Kls} {fo : PX} {apos : Pos} {pl : Sem Bool} (hk : KOk X.K kl) (hM : Meth X.K kl.addr m f) (G : Fn X.prog X.w X.K X.mg X.base k f sp) (tk : Takes X W) (hr : Room j X.A) (hkj : k ≤ j) (ho : LP X o fo) (ha : LA X W (e :: es) TA) (hno : ¬ m ∈ kl.names := by decide +kernel)
    (hst : starEach (e :: es) X.env = (false, eval e X.env) :: starEach es X.env := by rfl) (hpl : (backTo pos (starEach es X.env)).any (·.1) = false := by rfl)
    (ht : eval (.Call (.Attribute o m apos) (e :: es) [] pos) X.env = (do
      let ov ← eval o X.env
      standAt apos.atName
      let (f, first) ← holding [ov] (getMethod ov m pl)
      callWith pos f first (backTo pos (starEach (e :: es) X.env)) (backToKw pos (keywordEach [] X.env))) := by rfl) :
    LE X W (.Call (.Attribute o m apos) (e :: es) [] pos) (tMethF kl sp fo TA) := by
  obtain ⟨fd, ps, F0, hb⟩ := G.ex
  exact pe_weak (pe_methS (E := WE W) ho hk.cl hM F0 (hr.mono hkj) hb (fun σ => passAt tk σ) ha hst hpl ht) fun _ _ _ h => meth_low hno h
theorem le_meth0 {kl : Kls} {fo : PX} {apos : Pos} {pl : Sem Bool} (hk : KOk X.K kl) (hM : Meth X.K kl.addr m f) (G : Fn X.prog X.w X.K X.mg X.base k f sp) (tk : Takes X W) (hr : Room j X.A) (hkj : k ≤ j) (ho : LP X o fo) (hno : ¬ m ∈ kl.names := by decide +kernel)
    (ht : eval (.Call (.Attribute o m apos) [] [] pos) X.env = (do
      let ov ← eval o X.env
      standAt apos.atName
      let (f, first) ← holding [ov] (getMethod ov m pl)
      callWith pos f first (backTo pos (starEach [] X.env)) (backToKw pos (keywordEach [] X.env))) := by rfl) :
    LE X W (.Call (.Attribute o m apos) [] [] pos) (tMethF kl sp fo (ofL aNil)) := by
  obtain ⟨fd, ps, F0, hb⟩ := G.ex
  refine pe_weak (pe_methS0 (E := WE W) ho hk.cl hM F0 (hr.mono hkj) hb (fun σ => passAt tk σ) ht) fun σ H Q h => ?_
  obtain ⟨F, ds, S, Φ, Ψ, R, sl, ⟨a, fs, e1, e2, xs, e3, q⟩, k, x⟩ := h
  cases e3
  refine ⟨F, ds, S, _, R, sl, e1, fun v H1 R1 k1 d1 => ?_⟩
  obtain ⟨dx, vs, h1, h2, h3⟩ := R1.mo e2
  exact ⟨a, dx, _, dat_adr.mp d1, h1, zip_no hno, F, _, S, Φ, Ψ, R1, Dats.cons d1 Dats.nil, q, fun d S' v H' a b c e => k d S' v H' a b (k1.trans c) e, fun x' S' cls da H' a b c e => x x' S' cls da H' a b (k1.trans c) e⟩
/-! C(e, ..) -/
theorem run_makeS {CX : CXT} {fd : FuncData} {ps : List Str} {sp : Sp} {E : L2.St → XK} {pins : List (Addr × Obj)} {σ : L2.St} {H : Hp} {s : Shared} {Q : VK} {us : List Value} {vs : List V} (M : Mk X.K C f) (F : FnOk X.prog X.w X.K X.mg X.base CX k f fd ps sp) (hr : Room (k + 1) X.A) (hb : Binds X.K fd ps [])
    (hx : ∀ σ, PassesAt CX X σ (E σ)) (I : Inv X pins σ H s) (r : Vals vs us)
    (h : ∀ x dx, H x = none → H dx = none → dx ≠ x → sp (.ref x :: vs) (upd (upd H dx (.own x)) x (.ins C dx [])) (fun v H2 => v = .non ∧ Q (.ref x) H2) (E σ)) :
    wpAny (model X.prog X.w) X.A (call (.ref C) us) (EP X pins σ Q) X.xe s := by
  have hq := h (s.heap.objs.size + 1) s.heap.objs.size (I.hok.fresh (Nat.le_succ _)) (I.hok.fresh (Nat.le_refl _)) (Nat.ne_of_lt (Nat.lt_succ_self _))
  have I2 := Inv.made (C := C) I
  have r2 : Vals (V.ref (s.heap.objs.size + 1) :: vs) (Value.ref (s.heap.objs.size + 1) :: us) := .cons rfl r
  have hl : (Value.ref (s.heap.objs.size + 1) :: us).length = ps.length := by
    have e := r2.length
    rw [F.len _ _ _ _ hq] at e
    exact e.symm
  have b := hb _ (Value.ref (s.heap.objs.size + 1) :: us) I2.kIn (by rw [List.append_nil]; exact hl)
  rw [List.append_nil] at b
  refine wpAny_call (make_map (f := f) I.kIn M.makes M.init (beq_iff_eq.mp M.fn) (codeAny_mono (F.run _ X.stack _ _ ⟨Value.ref (s.heap.objs.size + 1) :: us, []⟩ (Value.ref (s.heap.objs.size + 1) :: us) _ _ (E σ) (hr.make C us [])
    (I2.env0.make C us []) b r2 hq) fun r s' hq' => ?_))
  cases r with
  | error e => exact hx σ pins _ _ e s' I2 hq'
  | ok fl =>
    cases fl with
    | ret u =>
      obtain ⟨v, H', I3, rv, ev, q3⟩ := I2.after hq'
      subst ev
      exact ⟨rv, ⟨V.ref (s.heap.objs.size + 1), H', I3, rfl, q3⟩⟩
    | next => exact False.elim hq'
    | brk => exact False.elim hq'
    | cont => exact False.elim hq'
def tMakeF (kl : Kls) (sp : LSp) (TA : LTa) : LTe := fun ds S Φ Ψ => TA ds S (fun xs S1 => ∀ a, S1 a = none → sp (.adr a :: xs) (S1.put a (.ins kl [])) (fun d S2 => d = .non ∧ Φ (.adr a) S2) Ψ) Ψ
theorem make_low {kl : Kls} {F : Addr → Prop} {S1 : Sto} {xs : List Dt} {Φ : Kt} {Ψ : Xt} {vs : List V} {H1 : Hp} {Q : VK} {E : XK} (R1 : Rep X.K F S1 H1) (d1 : Dats X.K F S1 H1 xs vs)
    (q1 : ∀ a, S1 a = none → sp (.adr a :: xs) (S1.put a (.ins kl [])) (fun d S2 => d = .non ∧ Φ (.adr a) S2) Ψ) (k : ∀ d S' v H', Φ d S' → Rep X.K F S' H' → Keep F S1 H1 S' H' → Dat X.K F S' H' d v → Q v H')
    (x : ∀ x S' cls da H', Ψ x S' → Rep X.K F S' H' → Keep F S1 H1 S' H' → ExOk X.K F S' H' x cls da → E cls da H') (a dx : Addr) (ha : H1 a = none) (hdx : H1 dx = none) (hne : dx ≠ a) :
    lowSp X.K sp (.ref a :: vs) (upd (upd H1 dx (.own a)) a (.ins kl.addr dx [])) (fun v H2 => v = .non ∧ Q (.ref a) H2) E := by
  have ha2 : upd H1 dx (.own a) a = none := by rw [upd_ne (Ne.symm hne)]; exact ha
  have R2 := R1.new (o := .own a) hdx
  have k2 : Keep F S1 H1 S1 (upd H1 dx (.own a)) := R1.kn hdx
  have k3 : Keep F S1 (upd H1 dx (.own a)) (S1.put a (.ins kl [])) (upd (upd H1 dx (.own a)) a (.ins kl.addr dx [])) := R2.knM ha2
  have R3 : Rep X.K F (S1.put a (.ins kl [])) (upd (upd H1 dx (.own a)) a (.ins kl.addr dx [])) := R2.put (R2.nf ha2) k3 ⟨dx, [], by rw [upd_same, List.zip_nil_right], Nat.zero_le _, Dats.nil⟩
  refine ⟨F, _, _, _, _, R3, Dats.cons (dat_adr.mpr rfl) (Dats.keep (k2.trans k3) _ d1), q1 a (R1.free ha), fun d S' v H' ⟨e1, q⟩ R' k' dv => ?_, fun x' S' cls da H' a b c e => x x' S' cls da H' a b ((k2.trans k3).trans c) e⟩
  subst e1
  exact ⟨dat_non.mp dv, k _ S' _ H' q R' ((k2.trans k3).trans k') (dat_adr.mpr rfl)⟩
theorem le_make {kl : Kls} {p2 : Pos} (M : Mk X.K kl.addr f) (G : Fn X.prog X.w X.K X.mg X.base k f sp) (tk : Takes X W) (hr : Room j X.A) (hkj : k + 1 ≤ j) (hm : X.mg x = some (.ref kl.addr)) (ha : LA X W (e :: es) TA) (hg : Gl X x := by rfl)
    (hdb : (x == ("__debug__" : Str)) = false := by decide) (he : starEach (e :: es) X.env = (false, eval e X.env) :: starEach es X.env := by rfl) (hpl : (backTo pos (starEach es X.env)).any (·.1) = false := by rfl) :
    LE X W (.Call (.Name x p2) (e :: es) [] pos) (tMakeF kl sp TA) := by
  obtain ⟨fd, ps, F0, hb⟩ := G.ex
  refine ⟨fun pins s σ H Q I ⟨F, ds, S, Φ, Ψ, R, sl, q, kk, xx⟩ => ?_⟩
  refine wpAny_Call_Name_kw (ld_glob I hg hm ?_ hdb)
  have hq : lowA X.K W TA σ H fun vs H1 => ∀ a dx, H1 a = none → H1 dx = none → dx ≠ a → lowSp X.K sp (.ref a :: vs) (upd (upd H1 dx (.own a)) a (.ins kl.addr dx [])) (fun v H2 => v = .non ∧ Q (.ref a) H2) (WE W σ) :=
    lowA_run R sl q (fun xs S1 vs H1 q1 R1 k1 d1 a dx ha hdx hne => make_low R1 d1 q1 (fun d S' v H' a b c e => kk d S' v H' a b (k1.trans c) e) (fun x' S' cls da H' a b c e => xx x' S' cls da H' a b (k1.trans c) e) a dx ha hdx hne) xx
  refine PySem.W.callWith_K (h₀ := X.base) I.ok.mod.kin M.kp (thn (ha.run pos pins s σ H _ I hq) fun us s1 ⟨vs, H1, I1, r, q⟩ => ⟨I1.kIn, ?_⟩) he hpl
  exact run_makeS (E := WE W) M F0 (hr.mono hkj) hb (fun σ => passAt tk σ) I1 r q
theorem le_make0 {kl : Kls} {p2 : Pos} (M : Mk X.K kl.addr f) (G : Fn X.prog X.w X.K X.mg X.base k f sp) (tk : Takes X W) (hr : Room j X.A) (hkj : k + 1 ≤ j) (hm : X.mg x = some (.ref kl.addr)) (hg : Gl X x := by rfl) (hdb : (x == ("__debug__" : Str)) = false := by decide) :
    LE X W (.Call (.Name x p2) [] [] pos) (tMakeF kl sp (ofL aNil)) := by
  obtain ⟨fd, ps, F0, hb⟩ := G.ex
  refine ⟨fun pins s σ H Q I ⟨F, ds, S, Φ, Ψ, R, sl, ⟨xs, e3, q⟩, kk, xx⟩ => ?_⟩
  cases e3
  refine wpAny_Call_Name_kw (ld_glob I hg hm ?_ hdb)
  exact PySem.W.callWith_K0 I.kIn M.kp (run_makeS (us := []) (vs := []) (E := WE W) M F0 (hr.mono hkj) hb (fun σ => passAt tk σ) I .nil fun a dx ha hdx hne => make_low R Dats.nil q kk xx a dx ha hdx hne)
end
/-! ### a def's body -/
def startD (m : Nat) (ds : List Dt) : Env := ds.map some ++ List.replicate m none
theorem start_sl {K : PySem.W.Frag} {F : Addr → Prop} {S : Sto} {H : Hp} {ds : List Dt} {vs : List V} {N : List Str} {m : Nat} (h : Dats K F S H ds vs) (hm : N.length = ds.length + m) : Sl K F S H (L2.start N vs) (startD m ds) := by
  have hl := h.length
  have e : N.length - vs.length = m := by omega
  unfold L2.start startD
  rw [e]
  refine ⟨by rw [List.length_append, List.length_append, List.length_map, List.length_map, List.length_replicate, List.length_replicate, hl], fun i d q => ?_⟩
  by_cases hi : i < ds.length
  · rw [List.getElem?_append_left (by rw [List.length_map]; exact hi), List.getElem?_map] at q
    cases hd : ds[i]? with
    | none =>
      rw [hd] at q
      cases q
    | some d' =>
      rw [hd] at q
      cases q
      obtain ⟨v, h1, h2⟩ := h.get hd
      exact ⟨v, by rw [List.getElem?_append_left (by rw [List.length_map, hl]; exact hi), List.getElem?_map, h1]; rfl, h2⟩
  · rw [List.getElem?_append_right (by rw [List.length_map]; omega), List.getElem?_replicate] at q
    split at q <;> cases q
section
variable {P : Program} {w : World} {K : PySem.W.Frag} {mg : Str → Option Value} {base : Heap}
abbrev WD (E : XK) : WX := fun cls d _ H => E cls d H
theorem fn_ok0 {x qual : Str} {st : Stmt} {f : Addr} {fd : FuncData} {N ps : List Str} {k m : Nat} {sp : LSp} (F : L2.Fun K x qual st f fd) (b : Binds K fd ps []) (S : FnScope N ps (defScope st)) (hm : N.length = ps.length + m) (hlen : ∀ ds S Φ Ψ, sp ds S Φ Ψ → ds.length = ps.length)
    (hbody : ∀ (cdv : Value) (A : Around) (outer : List PySem.Env) (s : Shared) (H : Hp) (E : XK), Room k (A.deeper (envOfC qual (defScope st) s.heap.objs.size f cdv)) →
      Cxt (cxOf (L2.CX P w) P w K mg base N qual (defScope st) f cdv A outer s H E) (WD E) →
      ∃ T, LSs (cxOf (L2.CX P w) P w K mg base N qual (defScope st) f cdv A outer s H E) (WD E) (defBody st) T ∧ ∀ ds S Φ Ψ, sp ds S Φ Ψ → T { nx := fun _ S' => Φ .non S', rt := Φ, xc := fun _ => Ψ } (startD m ds) S) :
    FnOk P w K mg base (L2.CX P w) (k + 1) f fd ps (lowSp K sp) := by
  have hl : ∀ vs H Q E, lowSp K sp vs H Q E → vs.length = ps.length := fun vs H Q E ⟨F, ds, S, Φ, Ψ, R, dv, q, _⟩ => by rw [dv.length]; exact hlen ds S Φ Ψ q
  refine L2.Fun.okX F S hl fun cdv A outer s H vs Q E hr hsp => ?_
  obtain ⟨T, h1, h2⟩ := hbody cdv A outer s H E hr ⟨takes_of rfl rfl rfl rfl, passes_of rfl, rfl, S.nd⟩
  refine ⟨_, h1, ?_⟩
  obtain ⟨F', ds, S', Φ, Ψ, R, dv, q, kk, xx⟩ := hsp
  exact lowS_run R (start_sl dv (by rw [hm, hlen _ _ _ _ q])) (h2 ds S' Φ Ψ q) ⟨fun ds' S2 σ' H' a b c d => kk _ S2 _ H' a b c (dat_non.mpr rfl), kk, fun _ _ _ _ z => z.elim, fun _ _ _ _ z => z.elim, fun _ x S2 cls da σ' H' a b c d e => xx x S2 cls da H' a b c e⟩
theorem fn_ok {x qual : Str} {st : Stmt} {f : Addr} {fd : FuncData} {N ps : List Str} {k m : Nat} {sp : LSp} (F : L2.Fun K x qual st f fd) (b : Binds K fd ps []) (S : FnScope N ps (defScope st)) (hm : N.length = ps.length + m) (hlen : ∀ ds S Φ Ψ, sp ds S Φ Ψ → ds.length = ps.length)
    (hbody : ∀ (cdv : Value) (A : Around) (outer : List PySem.Env) (s : Shared) (H : Hp) (E : XK), Room k (A.deeper (envOfC qual (defScope st) s.heap.objs.size f cdv)) →
      Cxt (cxOf (L2.CX P w) P w K mg base N qual (defScope st) f cdv A outer s H E) (WD E) →
      ∃ T, LSs (cxOf (L2.CX P w) P w K mg base N qual (defScope st) f cdv A outer s H E) (WD E) (defBody st) T ∧ ∀ ds S Φ Ψ, sp ds S Φ Ψ → T { nx := fun _ S' => Φ .non S', rt := Φ, xc := fun _ => Ψ } (startD m ds) S) :
    Fn P w K mg base (k + 1) f sp := ⟨⟨fd, ps, fn_ok0 F b S hm hlen hbody, b⟩, F.kp⟩
end
end Ax
set_option maxRecDepth 100000
set_option maxHeartbeats 4000000
/-! Ax: __init__ of own exceptions that says super().__init__(..) first. -/
namespace Ax
open PySem PySem.Spec PyProof.Rows L2
/-- a def of a class's body that closes over its class -/
structure SupFn (prog : Program) (K : PySem.W.Frag) (x qual : Str) (st : Stmt) (f D : Addr) (fd : FuncData) : Prop where
  ex : ∃ (oc : Value) (od : Option Addr) (dV kV doc pm : Value) (an : Option Addr) (cda : Addr) (ct : Value) (osl : Array (Option Value)) (cc : Addr) (vs : Array Value) (file : Str) (tf : Tok) (ccl : Value) (cdd : Option Addr) (ccs : Array (Option Value)) (cl : Value) (cld : Option Addr) (csl : Array (Option Value)),
    fd = PySem.W.ksFn x qual (defArgs st) (defBody st) (defScope st) dV kV doc pm an (.ref cda) ct cc ∧ K.lookup f = some ⟨oc, od, .func fd, osl⟩ ∧ PySem.W.codeIn K (.ref cda) qual = true ∧
    K.lookup cda = some ⟨ccl, cdd, .fields vs, ccs⟩ ∧ vs[2]? = some (.str file tf) ∧ ((prog.main.file : Str) == file) = true ∧ K.lookup cc = some ⟨cl, cld, .cell (some (.ref D)), csl⟩
  clsD : ∃ cdD, PySem.W.clsIn K D = some cdD
  op : PySem.W.nsIn K cStatics "thirdparty.any" = some none
  top : (prog.main.scope.names.lookup ("super" : Str)).isSome = false
/-- the scope of such a def: its parameters, and its class -/
structure SupSc (N : List Str) (sc : Scope) : Prop where
  kind : sc.kind = .function
  co : sc.isCoroutine = false
  gen : sc.isGenerator = false
  nd : N.Nodup
  par : ∀ x ∈ N, sc.names.lookup x = some .local
  nocell : ∀ y ∈ sc.names, y.2 ≠ .cell
  free : ∀ y ∈ sc.names, y.2 = .free → y.1 = "__class__"
  sup : sc.names.lookup ("super" : Str) = some .globalImplicit
  cls : sc.names.lookup ("__class__" : Str) = some .free
abbrev cxS (P : Program) (w : World) (K : PySem.W.Frag) (mg : Str → Option Value) (base : Heap) (N : List Str) (qual : Str) (scope : Scope) (f cda cc : Addr) (A : Around) (outer : List PySem.Env) (s : Shared) (H : Hp) : Cx where
  prog := P
  w := w
  K := K
  mg := mg
  base := base
  A := A.deeper (PySem.W.ksEnv qual scope s.heap.objs.size f (.ref cda) cc)
  N := N
  s_0 := s
  H_0 := H
  env := PySem.W.ksEnv qual scope s.heap.objs.size f (.ref cda) cc
  outer := outer
  stack := PySem.W.ksEnv qual scope s.heap.objs.size f (.ref cda) cc :: outer
  ex := []
  calm := true
  fn := fun _ => false
  pn := []
  xe := fun _ _ => False
theorem lookup_of_mem {α : Type} {x : Str} {u : α} : ∀ {l : List (Str × α)}, (l.map (·.1)).Nodup → (x, u) ∈ l → l.lookup x = some u
  | [], _, h => by simp at h
  | (y, v) :: l, nd, h => by
    rw [List.map_cons, List.nodup_cons] at nd
    rcases List.mem_cons.mp h with e | h
    · cases e
      simp [List.lookup]
    · have ne : (x == y) = false := by
        rw [beq_eq_false_iff_ne]
        intro z
        exact nd.1 (by rw [← z]; exact List.mem_map_of_mem (f := (·.1)) h)
      simp only [List.lookup, ne]
      exact lookup_of_mem nd.2 h
theorem zip_map_fst {α : Type} : ∀ {ps : List Str} {us : List α}, us.length = ps.length → (ps.zip us).map (·.1) = ps
  | [], us, _ => by simp
  | p :: ps, [], h => by simp at h
  | p :: ps, u :: us, h => by
    rw [List.zip_cons_cons, List.map_cons, zip_map_fst (by simpa using h)]
theorem zip_mem {α : Type} : ∀ {ps : List Str} {us : List α} {i : Nat} {x : Str} {u : α}, ps[i]? = some x → us[i]? = some u → (x, u) ∈ ps.zip us
  | [], us, i, x, u, h, _ => by simp at h
  | p :: ps, [], i, x, u, _, h => by simp at h
  | p :: ps, w :: us, 0, x, u, h, h' => by
    simp at h h'
    rw [h, h', List.zip_cons_cons]
    exact List.mem_cons_self
  | p :: ps, w :: us, i + 1, x, u, h, h' => by
    rw [List.zip_cons_cons]
    exact List.mem_cons_of_mem _ (zip_mem (by simpa using h) (by simpa using h'))
theorem lookup_rev_zip {α : Type} {ps : List Str} {us : List α} {i : Nat} {x : Str} {u : α} (nd : ps.Nodup) (hl : us.length = ps.length) (h : ps[i]? = some x) (h' : us[i]? = some u) : (ps.zip us).reverse.lookup x = some u :=
  lookup_of_mem (by rw [List.map_reverse, zip_map_fst hl]; exact (List.reverse_perm ps).nodup_iff.mpr nd) (List.mem_reverse.mpr (zip_mem h h'))
theorem inv_startS {P : Program} {w : World} {K : PySem.W.Frag} {mg : Str → Option Value} {base : Heap} {N : List Str} {qual : Str} {scope : Scope} {f cda cc : Addr} {A : Around} {outer : List PySem.Env} {s : Shared} {H : Hp} {us : List Value} {vs : List V} {h₁ : Heap} {tk : Nat} {cl : Value} {cld : Option Addr} {csl : Array (Option Value)} {D : Addr}
    (S : SupSc N scope) (hd : A.handled = none) (e0 : Env0 P w K mg base A outer s H) (hl : vs.length = N.length) (r : Vals vs us) (hcc : K.lookup cc = some ⟨cl, cld, .cell (some (.ref D)), csl⟩)
    (hns : h₁.Ns s.heap.objs.size (fun x => (N.zip us).reverse.lookup x)) (hk : ∀ b o, s.heap.get? b = some o → h₁.get? b = some o) :
    Inv (cxS P w K mg base N qual scope f cda cc A outer s H) [] (L2.start N vs) H { s with heap := h₁, toks := tk } := by
  have noA : ∀ b : Addr, b ∉ (cxS P w K mg base N qual scope f cda cc A outer s H).ex := fun b z => absurd (show b ∈ ([] : List Addr) from z) (by simp)
  have hb : base.get? cc = some ⟨cl, cld, .cell (some (.ref D)), csl⟩ := e0.mod.kin _ _ hcc
  have hs := e0.bs _ _ hb
  have cl1 : ∀ {x : Str} {c : Addr}, (cxS P w K mg base N qual scope f cda cc A outer s H).env.cells.lookup x = some c → x = "__class__" ∧ c = cc := fun {x c} h => by
    have h' : List.lookup x [(("__class__" : Str), cc)] = some c := h
    by_cases e : x = "__class__"
    · subst e
      simp [List.lookup] at h'
      exact ⟨rfl, h'.symm⟩
    · have ne : (x == ("__class__" : Str)) = false := beq_eq_false_iff_ne.mpr e
      simp only [List.lookup, ne] at h'
      cases h'
  refine ⟨⟨e0.mod, S.kind, rfl, rfl, Nat.le_refl _, fun y z c h1 h2 => by rw [(cl1 h1).1, (cl1 h2).1], fun y hy => ?_, fun y c h _ => (by cases h), fun _ => hd, Around.frames_deeper e0.frames, .inr ⟨rfl, rfl⟩, fun b z => absurd z (noA b), e0.bs, e0.bsz, fun b _ _ => noA b, fun b z => absurd z (noA b), e0.funs, e0.frf⟩,
    rfl, e0.bare, Un.kept hk, ⟨_, hns, fun i y v h1 h2 h3 => ?_⟩, fun y c h => ?_, e0.hok.fresh (Nat.le_refl _), fun y c h => by rw [(cl1 h).2]; exact hs.2, fun p hp => absurd (show p ∈ ([] : List (Addr × Obj)) from hp) (by simp), e0.hok.kept hk, ?_⟩
  · have hy : scope.names.lookup y = some .cell ∨ scope.names.lookup y = some .free := hy
    rcases hy with hy | hy
    · exact absurd rfl (S.nocell _ (PySem.mem_of_lookup hy))
    · have e := S.free _ (PySem.mem_of_lookup hy) rfl
      have e' : y = "__class__" := e
      subst e'
      exact ⟨cc, by show List.lookup ("__class__" : Str) [(("__class__" : Str), cc)] = some cc; simp [List.lookup]⟩
  · have hi : i < vs.length := by
      unfold L2.start at h2
      by_cases hi : i < vs.length
      · exact hi
      · rw [List.getElem?_append_right (by simpa using hi), List.getElem?_replicate] at h2
        split at h2 <;> cases h2
    have ha : vs[i]? = some v := by
      unfold L2.start at h2
      rw [List.getElem?_append_left (by simpa using hi), List.getElem?_map] at h2
      cases e : vs[i]? with
      | none =>
        rw [e] at h2
        cases h2
      | some a =>
        rw [e] at h2
        cases h2
        rfl
    obtain ⟨u, hu, rv⟩ := r.get ha
    exact ⟨u, rv, .inl ⟨S.par y (List.mem_of_getElem? h1), lookup_rev_zip S.nd (by rw [← r.length]; exact hl) h1 hu⟩⟩
  · rw [(cl1 h).2]
    exact ⟨some (.ref D), _, hk _ _ hs.1, rfl⟩
  · unfold L2.start
    show _ = N.length
    rw [List.length_append, List.length_map, List.length_replicate]
    omega
/-- what the written part says of the exception's class C as an instance of D's line -/
structure SupCl (K : PySem.W.Frag) (C D : Addr) : Prop where
  sub : PySem.W.mroIn K C (.ref D) = some true
theorem ne_cls {X : Cx} {pins : List (Addr × Obj)} {σ : L2.St} {H : Hp} {s : Shared} {a C : Addr} {d : Option Addr} (T : OexC X.K C) (I : Inv X pins σ H s) (e : H a = some (exo a C d)) : a ≠ C := fun z => by
  obtain ⟨nm, q, N, bs, bm, sn, sub, ab, col, dd, k0, k1, k2, k3, k5, hC, hbm⟩ := T.cls
  obtain ⟨t1, ho⟩ := exo_at I.hok e
  have h2 := I.kIn _ _ hC
  rw [z, h2] at ho
  cases ho
section
variable {P : Program} {w : World} {K : PySem.W.Frag} {mg : Str → Option Value} {base : Heap} {N : List Str} {x qual : Str} {st : Stmt} {f cda cc D : Addr} {A : Around} {outer : List PySem.Env} {s0 : Shared} {H0 : Hp}
/-- super() in such a body -/
theorem sup_base {oc ccl cl : Value} {od cdd cld : Option Addr} {dV kV doc pm ct : Value} {an : Option Addr} {osl ccs csl : Array (Option Value)} {vs : Array Value} {file : Str} {tf : Tok} {cdD : ClassData} {a C : Addr} {ar : Arg} {pins : List (Addr × Obj)} {σ : L2.St} {H : Hp} {s : Shared} {attr : Str} {whole : Sem Value} {p0 p1 : Pos} {Q : Value → Shared → Prop} {E : Value → Shared → Prop} {body : List Stmt}
    (S : SupSc N (defScope st)) (lk : K.lookup f = some ⟨oc, od, .func (PySem.W.ksFn x qual (defArgs st) (defBody st) (defScope st) dV kV doc pm an (.ref cda) ct cc), osl⟩) (hcode : K.lookup cda = some ⟨ccl, cdd, .fields vs, ccs⟩) (hvs : vs[2]? = some (.str file tf)) (hfile : ((P.main.file : Str) == file) = true)
    (hcc : K.lookup cc = some ⟨cl, cld, .cell (some (.ref D)), csl⟩) (hD : PySem.W.clsIn K D = some cdD) (htop : (P.main.scope.names.lookup ("super" : Str)).isSome = false) (hmg : mg "super" = none)
    (hp : ((defArgs st).posonlyargs ++ (defArgs st).args).head? = some ar) (hN : N[0]? = some ar.arg) (hσ : σ[0]? = some (some (.ref a))) (hat : (attr == ("__class__" : Str)) = false)
    (I : Inv (cxS P w K mg base N qual (defScope st) f cda cc A outer s0 H0) pins σ H s) (T : OexC K C) (ea : H a = some (exo a C none)) (hsub : PySem.W.mroIn K C (.ref D) = some true)
    (h : ∀ so s', Inv (cxS P w K mg base N qual (defScope st) f cda cc A outer s0 H0) pins σ H s' → s'.heap.get? so = some { cls := .type "super", dict := none, data := .fields #[.ref D, .ref a, .ref C], slots := #[] } → Q (.ref so) s') :
    _root_.PySem.wpAt (model P w) (A.deeper (PySem.W.ksEnv qual (defScope st) s0.heap.objs.size f (.ref cda) cc)) (.func body (PySem.W.ksEnv qual (defScope st) s0.heap.objs.size f (.ref cda) cc)) (attributeBase (.Call (.Name "super" p0) [] [] p1) attr (PySem.W.ksEnv qual (defScope st) s0.heap.objs.size f (.ref cda) cc) whole) Q E s := by
  have kin := I.kIn
  obtain ⟨m, hn, hl⟩ := id I.loc
  obtain ⟨oD, hD1, hD2⟩ : ∃ oD, s.heap.get? D = some oD ∧ oD.data = .cls cdD := by
    unfold PySem.W.clsIn at hD
    split at hD
    · rename_i c d cd' sl ho
      cases hD
      exact ⟨_, kin _ _ ho, rfl⟩
    · cases hD
  obtain ⟨u, ru, lu⟩ := hl 0 ar.arg (.ref a) hN hσ (.inl (S.par _ (List.mem_of_getElem? hN)))
  obtain rfl : u = Value.ref a := ru
  have hv : m ar.arg = some (.ref a) := by
    rcases lu with ⟨_, z⟩ | ⟨z, _⟩
    · exact z
    · have k1 : (defScope st).names.lookup ar.arg = some .local := S.par _ (List.mem_of_getElem? hN)
      have z' : (defScope st).names.lookup ar.arg = some .cell ∨ (defScope st).names.lookup ar.arg = some .free := z
      rw [k1] at z'
      rcases z' with z' | z' <;> cases z'
  obtain ⟨t1, ho⟩ := exo_at I.hok ea
  obtain ⟨mb, h1, h2⟩ := I.mod.blt
  refine ks_wpAt_super_base (env := PySem.W.ksEnv qual (defScope st) s0.heap.objs.size f (.ref cda) cc) S.sup S.cls hat rfl (kin _ _ lk) rfl hp rfl (kin _ _ hcode) rfl hvs hfile htop ?_
  refine PySem.W.ks_loadName_global S.kind S.sup (Calls.loadGlobal_builtin (env := PySem.W.ksEnv qual (defScope st) s0.heap.objs.size f (.ref cda) cc) (I.mod.glob.keeps I.bk) hmg (h1.keeps I.bk) ((h2 _ (by decide +kernel)).trans (by decide +kernel : bootBuiltins "super" = some (.type "super"))) ⟨rfl, ?_⟩)
  refine wpAny_loadName_free S.kind S.cls rfl ⟨_, kin _ _ hcc, rfl⟩ ?_
  refine wpAny_loadName_local S.kind (S.par _ (List.mem_of_getElem? hN)) hn hv ?_
  obtain ⟨hh, g, d, t, os⟩ := s
  refine ks_wpAny_isType_cls hD1 hD2 ⟨rfl, ?_⟩
  refine ks_wpAny_call_super hD1 hD2 ho rfl (fun c e => by cases e) (PySem.W.looks_mroIn kin hsub) (fun h' e k => ?_)
  exact h _ _ (I.kept (t' := t) k) e
/-- the class side of super().__init__ -/
theorem mro_looks {C : Addr} {cd : ClassData} {h : Heap} (hc : PySem.W.clsIn K C = some cd) (k : K.In h) : PySem.W.Looks (model P w) h (mroOf (.ref C)) cd.mro := fun A Q E s k' q => wpAny_bind ((PySem.W.looks_clsIn k hc) A _ E s k' (wpAny_pure q))
section
variable {X : Cx} {pins : List (Addr × Obj)} {σ : L2.St} {H : Hp} {s : Shared} {a C D so : Addr} {d0 : Option Addr} {e : Expr} {es : List Expr} {pos : Pos} {ta : L2.TA}
theorem exc_inst (I : Inv X pins σ H s) (ea : H a = some (exo a C d0)) : ∃ t1 : Addr, s.heap.get? a = some ({ cls := .ref C, dict := d0, data := .fields #[.ref t1, .none, .none, .none, .bool false, .none] } : Obj) := exo_at I.hok ea
/-- getMethod of an own def: a bound method -/
theorem sup_own {f2 : Addr} {name : Str} {pl : Sem Bool} {Q : Value × List Value → Shared → Prop} {E : Value → Shared → Prop} {A : Around} (T : OexC X.K C) (I : Inv X pins σ H s) (ea : H a = some (exo a C none)) (hop : PySem.W.nsIn X.K cStatics "thirdparty.any" = some none)
    (hso : s.heap.get? so = some { cls := .type "super", dict := none, data := .fields #[.ref D, .ref a, .ref C], slots := #[] }) (hm : PySem.W.ks_superIn X.K C D name = some (some (.ref f2))) (ht : PySem.W.typeIn X.K (.ref f2) = some (.type "function")) (hn : (name == ("__class__" : Str)) = false)
    (h : ∀ s', Inv X ((s.heap.objs.size, PySem.W.methodObj (.ref f2) (.ref a)) :: pins) σ H s' → Q (.ref s.heap.objs.size, []) s') : wpAny (model X.prog X.w) A (getMethod (.ref so) name pl) Q E s := by
  have hne := ne_cls T I ea
  have I0 := I
  obtain ⟨hh, g, d, t, os⟩ := s
  cases hc : PySem.W.clsIn X.K C with
  | none =>
    unfold PySem.W.ks_superIn at hm
    rw [hc] at hm
    cases hm
  | some cd =>
    unfold PySem.W.ks_superIn at hm
    rw [hc] at hm
    obtain ⟨of, hof, hofc⟩ : ∃ of, hh.get? f2 = some of ∧ of.cls = .type "function" := by
      have ht' : (X.K.lookup f2).map (·.cls) = some (.type "function") := ht
      cases z : X.K.lookup f2 with
      | none =>
        rw [z] at ht'
        cases ht'
      | some of =>
        rw [z] at ht'
        exact ⟨of, I.kIn _ _ z, Option.some.inj ht'⟩
    exact ks_wpAny_getMethod_super hso (PySem.W.looks_opaque I.kIn hop) (l₀ := cd.mro) (mro_looks hc I.kIn) rfl I.kIn hm hof hofc hne hn (h _ (ClX.met_new I0))
/-- .. of a built-in class's __init__: a method-wrapper -/
theorem sup_blt {B i : String} {name : Str} {pl : Sem Bool} {Q : Value × List Value → Shared → Prop} {E : Value → Shared → Prop} {A : Around} (KF : PySem.W.KxsFacts B i) (T : OexC X.K C) (I : Inv X pins σ H s) (ea : H a = some (exo a C none)) (hop : PySem.W.nsIn X.K cStatics "thirdparty.any" = some none) (hB : PySem.W.subIn X.K (.ref C) (.type B) = some true)
    (hso : s.heap.get? so = some { cls := .type "super", dict := none, data := .fields #[.ref D, .ref a, .ref C], slots := #[] }) (hm : PySem.W.ks_superIn X.K C D name = some (some (.builtin i))) (hn : (name == ("__class__" : Str)) = false)
    (h : ∀ s', Inv X ((s.heap.objs.size, PySem.W.kxs_mw i a) :: pins) σ H s' → Q (.ref s.heap.objs.size, []) s') : wpAny (model X.prog X.w) A (getMethod (.ref so) name pl) Q E s := by
  have hne := ne_cls T I ea
  have I0 := I
  obtain ⟨t1, ho⟩ := exc_inst I ea
  obtain ⟨hh, g, d, t, os⟩ := s
  have J : PySem.W.InstAt hh a ({ cls := .ref C, dict := none, data := .fields #[.ref t1, .none, .none, .none, .bool false, .none] } : Obj) C none := ⟨ho, rfl, rfl, trivial⟩
  have hI : PySem.W.Looks (model X.prog X.w) hh (isInstance (.ref a) (.type B)) true := J.type.andThen (PySem.W.looks_subIn I.kIn hB)
  cases hc : PySem.W.clsIn X.K C with
  | none =>
    unfold PySem.W.ks_superIn at hm
    rw [hc] at hm
    cases hm
  | some cd =>
    unfold PySem.W.ks_superIn at hm
    rw [hc] at hm
    refine PySem.W.kxs_getMethod KF hso (PySem.W.looks_opaque I.kIn hop) (l₀ := cd.mro) (mro_looks hc I.kIn) rfl I.kIn hm hI hne hn (h _ ?_)
    exact ClX.pin_new I0 (fun _ _ z => Heap.get?_push_of_some _ z) (Nat.le_refl _) (Heap.get?_push_size hh rfl) (fun v z => nomatch z)
/-- the wrapper, called: nothing of it is told -/
theorem mw_call {q : Addr} {us : List Value} {Q : Value → Shared → Prop} {E : Value → Shared → Prop} {A : Around} (T : OexC X.K C) (I : Inv X ((q, PySem.W.kxs_mw "ValueError.__init__" a) :: pins) σ H s) (ea : H a = some (exo a C none)) (hz : us.length ≤ sizeLine)
    (h : ∀ s', Inv X pins σ H s' → Q .none s') : wpAny (model X.prog X.w) A (call (.ref q) us) Q E s := by
  obtain ⟨nm, qn, N, bs, bm, sn, sub, ab, col, dd, k0, k1, k2, k3, k5, hC, hbm⟩ := T.cls
  obtain ⟨t1, ho⟩ := exc_inst I ea
  have hu := ClX.pin_at I
  have I1 := ClX.unpin I
  obtain ⟨hh, g, d, tk, os⟩ := s
  refine wpAny_call (codeAny_of_tree ?_)
  show wpAny _ A.in1 (callAny (.ref q) ⟨us, []⟩) _ _ _
  simp only [callAny]
  refine wpAny_bind (wpAny_load hu ?_)
  simp only [PySem.W.kxs_mw, show (Value.type "method-wrapper" == Value.type "method" || Value.type "method-wrapper" == Value.type "builtin_function_or_method" || Value.type "method-wrapper" == Value.type "method-wrapper") = true by decide, if_true]
  refine PySem.W.KFB.if_so (by decide) ?_
  refine wpAny_bind (PySem.W.check_bound_init F.excBase_ValueError.toExcCallFacts (I1.kIn _ _ hC) ho rfl ?_)
  refine wpAny_bind (wpAny_pure (wpAny_pure ?_))
  refine ⟨plainId_quiet F.excBase_ValueError.init.plain _, codeAny_builtin F.excBase_ValueError.initEntry ?_⟩
  refine PySem.W.exc_init_tree (cls := .ref C) (t0 := t1) (dv := none) (c2 := .none) (c3 := .none) (b4 := .bool false) ho hz fun h' k hx _ => ?_
  have J := I1.write (t' := tk) (x := a) (e := a) (o := exo a C none) (by rw [ea]; exact True.intro) (.inl rfl) k ⟨_, hx⟩ (exo_ok hx)
  have eu : upd H a (exo a C none) = H := by
    funext b
    by_cases hb : b = a
    · rw [hb, upd_same, ea]
    · rw [upd_ne hb]
  rw [eu] at J
  exact h _ J
end
/-- super().__init__(e, ..) as a statement, the base's __init__ an own def -/
theorem sup_stmt_own {oc ccl cl : Value} {od cdd cld : Option Addr} {dV kV doc pm ct : Value} {an : Option Addr} {osl ccs csl : Array (Option Value)} {vs : Array Value} {file : Str} {tf : Tok} {cdD : ClassData} {a C fB : Addr} {ar : Arg} {pins : List (Addr × Obj)} {σ : L2.St} {H : Hp} {s : Shared} {p0 p1 p2 p3 p4 : Pos} {e : Expr} {es : List Expr} {body : List Stmt} {ta : L2.TA} {kB : Nat} {fdB : FuncData} {psB : List Str} {spB : Sp} {R : Hp → Prop} {Q : Flow → Shared → Prop}
    (S : SupSc N (defScope st)) (lk : K.lookup f = some ⟨oc, od, .func (PySem.W.ksFn x qual (defArgs st) (defBody st) (defScope st) dV kV doc pm an (.ref cda) ct cc), osl⟩) (hcode : K.lookup cda = some ⟨ccl, cdd, .fields vs, ccs⟩) (hvs : vs[2]? = some (.str file tf)) (hfile : ((P.main.file : Str) == file) = true)
    (hcc : K.lookup cc = some ⟨cl, cld, .cell (some (.ref D)), csl⟩) (hD : PySem.W.clsIn K D = some cdD) (htop : (P.main.scope.names.lookup ("super" : Str)).isSome = false) (hmg : mg "super" = none) (hop : PySem.W.nsIn K cStatics "thirdparty.any" = some none)
    (hp : ((defArgs st).posonlyargs ++ (defArgs st).args).head? = some ar) (hN : N[0]? = some ar.arg) (hσ : σ[0]? = some (some (.ref a)))
    (I : Inv (cxS P w K mg base N qual (defScope st) f cda cc A outer s0 H0) pins σ H s) (T : OexC K C) (ea : H a = some (exo a C none)) (hsub : PySem.W.mroIn K C (.ref D) = some true)
    (hm : PySem.W.ks_superIn K C D "__init__" = some (some (.ref fB))) (ht : PySem.W.typeIn K (.ref fB) = some (.type "function")) (hfB : PySem.W.fnIn K fB = true)
    (G : FnOk P w K mg base CX0 kB fB fdB psB spB) (bB : Binds K fdB psB []) (hr : Room kB (A.deeper (PySem.W.ksEnv qual (defScope st) s0.heap.objs.size f (.ref cda) cc)))
    (ha : PA (cxS P w K mg base N qual (defScope st) f cda cc A outer s0 H0) (e :: es) ta) (hq : ta σ H fun vs H1 => spB (.ref a :: vs) H1 (fun _ H2 => R H2) E0) (k : ∀ s' H2, Inv (cxS P w K mg base N qual (defScope st) f cda cc A outer s0 H0) pins σ H2 s' → R H2 → Q .next s')
    (he : starEach (e :: es) (PySem.W.ksEnv qual (defScope st) s0.heap.objs.size f (.ref cda) cc) = (false, eval e (PySem.W.ksEnv qual (defScope st) s0.heap.objs.size f (.ref cda) cc)) :: starEach es (PySem.W.ksEnv qual (defScope st) s0.heap.objs.size f (.ref cda) cc))
    (hpl : (backTo p3 (starEach es (PySem.W.ksEnv qual (defScope st) s0.heap.objs.size f (.ref cda) cc))).any (·.1) = false)
    (hi : interactive (PySem.W.ksEnv qual (defScope st) s0.heap.objs.size f (.ref cda) cc) = false)
    (hs : swapsWith (.Call (.Attribute (.Call (.Name "super" p0) [] [] p1) "__init__" p2) (e :: es) [] p3) none p4.line (PySem.W.ksEnv qual (defScope st) s0.heap.objs.size f (.ref cda) cc) = pure false) {pl : Sem Bool}
    (hc : eval (.Call (.Attribute (.Call (.Name "super" p0) [] [] p1) "__init__" p2) (e :: es) [] p3) (PySem.W.ksEnv qual (defScope st) s0.heap.objs.size f (.ref cda) cc) = (do
      let ov ← attributeBase (.Call (.Name "super" p0) [] [] p1) "__init__" (PySem.W.ksEnv qual (defScope st) s0.heap.objs.size f (.ref cda) cc) (eval (.Call (.Name "super" p0) [] [] p1) (PySem.W.ksEnv qual (defScope st) s0.heap.objs.size f (.ref cda) cc))
      standAt p2.atName
      let (f', first) ← holding [ov] (getMethod ov "__init__" pl)
      callWith p3 f' first (backTo p3 (starEach (e :: es) (PySem.W.ksEnv qual (defScope st) s0.heap.objs.size f (.ref cda) cc))) [])) :
    _root_.PySem.wpAt (model P w) (A.deeper (PySem.W.ksEnv qual (defScope st) s0.heap.objs.size f (.ref cda) cc)) (.func body (PySem.W.ksEnv qual (defScope st) s0.heap.objs.size f (.ref cda) cc))
      (exec (.Expr (.Call (.Attribute (.Call (.Name "super" p0) [] [] p1) "__init__" p2) (e :: es) [] p3) p4) (PySem.W.ksEnv qual (defScope st) s0.heap.objs.size f (.ref cda) cc)) Q (fun _ _ => False) s := by
  refine ks_wpAt_Expr_any (ks_wpAt_MethodCall (pl := pl) ?_ hc) hi hs
  refine sup_base S lk hcode hvs hfile hcc hD htop hmg hp hN hσ (by decide +kernel) I T ea hsub fun so s1 I1 hso => ?_
  refine sup_own T I1 ea hop hso hm ht (by decide +kernel) fun s2 I2 => ?_
  refine ClX.callwith_cm I2 (ClX.base_none I1 (Nat.le_refl _)) hfB (thn (ha.run p3 _ s2 σ H _ I2 hq) fun us s3 ⟨vs', H1, I3, r, q⟩ => ⟨⟨ClX.pin_at I3, I3.kIn⟩, ?_⟩) he hpl
  have r2 : Vals (V.ref a :: vs') (Value.ref a :: us) := .cons rfl r
  have hl : (Value.ref a :: us).length = psB.length := by
    have e := r2.length
    rw [G.len _ _ _ _ q] at e
    exact e.symm
  have b := bB s3 (Value.ref a :: us) I3.kIn (by rw [List.append_nil]; exact hl)
  rw [List.append_nil] at b
  refine wpAny_call (PySem.W.method_call (ClX.pin_at I3) (codeAny_mono (G.run _ _ s3 H1 ⟨Value.ref a :: us, []⟩ (Value.ref a :: us) (V.ref a :: vs') _ E0 hr I3.env0 b r2 q) fun r s' hq' => ?_))
  cases r with
  | error e => exact False.elim hq'
  | ok fl =>
    cases fl with
    | ret u =>
      obtain ⟨v, H', I4, rv, ev⟩ := ClX.unpinE (I3.after hq')
      exact k s' H' I4 ev
    | next => exact False.elim hq'
    | brk => exact False.elim hq'
    | cont => exact False.elim hq'
/-- .. the base's __init__ the built-in ValueError's -/
theorem sup_stmt_blt {oc ccl cl : Value} {od cdd cld : Option Addr} {dV kV doc pm ct : Value} {an : Option Addr} {osl ccs csl : Array (Option Value)} {vs : Array Value} {file : Str} {tf : Tok} {cdD : ClassData} {a C : Addr} {ar : Arg} {pins : List (Addr × Obj)} {σ : L2.St} {H : Hp} {s : Shared} {p0 p1 p2 p3 p4 : Pos} {e : Expr} {es : List Expr} {body : List Stmt} {ta : L2.TA} {R : Hp → Prop} {Q : Flow → Shared → Prop}
    (S : SupSc N (defScope st)) (lk : K.lookup f = some ⟨oc, od, .func (PySem.W.ksFn x qual (defArgs st) (defBody st) (defScope st) dV kV doc pm an (.ref cda) ct cc), osl⟩) (hcode : K.lookup cda = some ⟨ccl, cdd, .fields vs, ccs⟩) (hvs : vs[2]? = some (.str file tf)) (hfile : ((P.main.file : Str) == file) = true)
    (hcc : K.lookup cc = some ⟨cl, cld, .cell (some (.ref D)), csl⟩) (hD : PySem.W.clsIn K D = some cdD) (htop : (P.main.scope.names.lookup ("super" : Str)).isSome = false) (hmg : mg "super" = none) (hop : PySem.W.nsIn K cStatics "thirdparty.any" = some none)
    (hp : ((defArgs st).posonlyargs ++ (defArgs st).args).head? = some ar) (hN : N[0]? = some ar.arg) (hσ : σ[0]? = some (some (.ref a)))
    (I : Inv (cxS P w K mg base N qual (defScope st) f cda cc A outer s0 H0) pins σ H s) (T : OexC K C) (ea : H a = some (exo a C none)) (hsub : PySem.W.mroIn K C (.ref D) = some true)
    (hm : PySem.W.ks_superIn K C D "__init__" = some (some (.builtin "ValueError.__init__"))) (hB : PySem.W.subIn K (.ref C) (.type "ValueError") = some true)
    (ha : PA (cxS P w K mg base N qual (defScope st) f cda cc A outer s0 H0) (e :: es) ta) (hq : ta σ H fun vs H1 => vs.length ≤ 1000 ∧ H1 a = some (exo a C none) ∧ R H1) (k : ∀ s' H2, Inv (cxS P w K mg base N qual (defScope st) f cda cc A outer s0 H0) pins σ H2 s' → R H2 → Q .next s')
    (he : starEach (e :: es) (PySem.W.ksEnv qual (defScope st) s0.heap.objs.size f (.ref cda) cc) = (false, eval e (PySem.W.ksEnv qual (defScope st) s0.heap.objs.size f (.ref cda) cc)) :: starEach es (PySem.W.ksEnv qual (defScope st) s0.heap.objs.size f (.ref cda) cc))
    (hpl : (backTo p3 (starEach es (PySem.W.ksEnv qual (defScope st) s0.heap.objs.size f (.ref cda) cc))).any (·.1) = false)
    (hi : interactive (PySem.W.ksEnv qual (defScope st) s0.heap.objs.size f (.ref cda) cc) = false)
    (hs : swapsWith (.Call (.Attribute (.Call (.Name "super" p0) [] [] p1) "__init__" p2) (e :: es) [] p3) none p4.line (PySem.W.ksEnv qual (defScope st) s0.heap.objs.size f (.ref cda) cc) = pure false) {pl : Sem Bool}
    (hc : eval (.Call (.Attribute (.Call (.Name "super" p0) [] [] p1) "__init__" p2) (e :: es) [] p3) (PySem.W.ksEnv qual (defScope st) s0.heap.objs.size f (.ref cda) cc) = (do
      let ov ← attributeBase (.Call (.Name "super" p0) [] [] p1) "__init__" (PySem.W.ksEnv qual (defScope st) s0.heap.objs.size f (.ref cda) cc) (eval (.Call (.Name "super" p0) [] [] p1) (PySem.W.ksEnv qual (defScope st) s0.heap.objs.size f (.ref cda) cc))
      standAt p2.atName
      let (f', first) ← holding [ov] (getMethod ov "__init__" pl)
      callWith p3 f' first (backTo p3 (starEach (e :: es) (PySem.W.ksEnv qual (defScope st) s0.heap.objs.size f (.ref cda) cc))) [])) :
    _root_.PySem.wpAt (model P w) (A.deeper (PySem.W.ksEnv qual (defScope st) s0.heap.objs.size f (.ref cda) cc)) (.func body (PySem.W.ksEnv qual (defScope st) s0.heap.objs.size f (.ref cda) cc))
      (exec (.Expr (.Call (.Attribute (.Call (.Name "super" p0) [] [] p1) "__init__" p2) (e :: es) [] p3) p4) (PySem.W.ksEnv qual (defScope st) s0.heap.objs.size f (.ref cda) cc)) Q (fun _ _ => False) s := by
  refine ks_wpAt_Expr_any (ks_wpAt_MethodCall (pl := pl) ?_ hc) hi hs
  refine sup_base S lk hcode hvs hfile hcc hD htop hmg hp hN hσ (by decide +kernel) I T ea hsub fun so s1 I1 hso => ?_
  refine sup_blt PySem.W.kxs_ValueError T I1 ea hop hB hso hm (by decide +kernel) fun s2 I2 => ?_
  show wpAny _ _ (callWith p3 (.ref s1.heap.objs.size) [] (backTo p3 (starEach (e :: es) (PySem.W.ksEnv qual (defScope st) s0.heap.objs.size f (.ref cda) cc))) []) _ _ _
  rw [he]
  refine PySem.W.kxs_callWith (i := "ValueError.__init__") (x := a) (by show (false || (backTo p3 (starEach es (PySem.W.ksEnv qual (defScope st) s0.heap.objs.size f (.ref cda) cc))).any (·.1)) = false; rw [hpl]; rfl) ?_
  have hrun := ha.run p3 _ s2 σ H _ I2 hq
  rw [he] at hrun
  refine Calls.evalArgs_plain (thn hrun fun us s3 ⟨vs', H1, I3, r, hz, e1, q⟩ => ⟨ClX.pin_at I3, ?_⟩)
  refine mw_call T I3 e1 (by show us.length ≤ sizeLine; rw [← Paired.length r]; exact Nat.le_trans hz (by rw [sizeLine_eq]; decide)) fun s4 I4 => k s4 H1 I4 q
/-- what the written part says of an own exception class C in the line of CarError at B -/
structure ExcC (K : PySem.W.Frag) (C B : Addr) : Prop where
  T : OexC K C
  sub : PySem.W.mroIn K C (.ref B) = some true
  sup : PySem.W.ks_superIn K C B "__init__" = some (some (.builtin "ValueError.__init__"))
  subV : PySem.W.subIn K (.ref C) (.type "ValueError") = some true
  nAt : PySem.W.findIn K (.ref C) "at" = some none
  nNm : PySem.W.findIn K (.ref C) "name" = some none
def spCE (K : PySem.W.Frag) (B : Addr) : Sp := fun vs H Q _ => ∃ (a C : Addr) (v n : V), vs = [.ref a, v, n] ∧ ExcC K C B ∧ H a = some (exo a C none) ∧
  ∀ d, H d = none → d ≠ a → Q .non (upd (upd H d (exd d [("name", n), ("at", v)])) a (exo a C (some d)))
theorem upd_swap {H : Hp} {a b : Addr} {o u : HO} (h : a ≠ b) : upd (upd H a o) b u = upd (upd H b u) a o := by
  funext c
  by_cases h1 : c = b
  · subst h1
    rw [upd_same, upd_ne (Ne.symm h), upd_same]
  · rw [upd_ne h1]
    by_cases h2 : c = a
    · subst h2
      rw [upd_same, upd_same]
    · rw [upd_ne h2, upd_ne h2, upd_ne h1]
/-- the tree of super().__init__(..) -/
def SupTree (p0 p1 p2 p3 : Pos) (es : List Expr) (pl : PySem.Env → Sem Bool) : Prop := ∀ env : PySem.Env, eval (.Call (.Attribute (.Call (.Name "super" p0) [] [] p1) "__init__" p2) es [] p3) env = (do
  let ov ← attributeBase (.Call (.Name "super" p0) [] [] p1) "__init__" env (eval (.Call (.Name "super" p0) [] [] p1) env)
  standAt p2.atName
  let (f', first) ← holding [ov] (getMethod ov "__init__" (pl env))
  callWith p3 f' first (backTo p3 (starEach es env)) [])
theorem ok_car {fd : FuncData} {B : Addr} {ar : Arg} {p0 p1 p2 p3 p4 p5 q1 q2 q3 q4 r1 r2 r3 r4 : Pos} {pl : PySem.Env → Sem Bool} (F : SupFn P K "__init__" "CarError.__init__" st f B fd) (S : SupSc ["self", "at", "name"] (defScope st))
    (hb : defBody st = [.Expr (.Call (.Attribute (.Call (.Name "super" p0) [] [] p1) "__init__" p2) [.Name "at" p5] [] p3) p4, .Assign [.Attribute (.Name "self" q1) "at" q2] (.Name "at" q3) q4, .Assign [.Attribute (.Name "self" r1) "name" r2] (.Name "name" r3) r4])
    (hc : SupTree p0 p1 p2 p3 [.Name "at" p5] pl)
    (hp : ((defArgs st).posonlyargs ++ (defArgs st).args).head? = some ar) (har : ar.arg = "self") (hmg : mg "super" = none) : FnOk P w K mg base CX0 1 f fd ["self", "at", "name"] (spCE K B) := by
  obtain ⟨oc, od, dV, kV, doc, pm, an, cda, ct, osl, cc, vs0, file, tf, ccl, cdd, ccs, cl, cld, csl, rfl, lk, hcd, hcode, hvs, hfile, hcc⟩ := F.ex
  obtain ⟨cdD, hD⟩ := F.clsD
  have len : ∀ vs H Q E, spCE K B vs H Q E → vs.length = 3 := fun vs H Q E ⟨_, _, _, _, e, _⟩ => by rw [e]; rfl
  refine ⟨len, fun A outer s H args us vs Q E hr e0 hbind r hsp => ?_⟩
  have hl := len _ _ _ _ hsp
  have KX : K.In s.heap := e0.mod.kin.keeps fun b o e => (e0.bs b o e).1
  have lim : s.heap.NoLimit := e0.mod.nolimit.keeps fun b o e => (e0.bs b o e).1
  obtain ⟨a, C, v, n, rfl, T, ea, k⟩ := hsp
  refine ks_codeAny_call_defAt (fd := PySem.W.ksFn "__init__" "CarError.__init__" (defArgs st) (defBody st) (defScope st) dV kV doc pm an (.ref cda) ct cc) (body := defBody st) hr.depth (KX _ _ lk) rfl lim (PySem.W.codeRec_of KX hcd) rfl hbind S.nocell (fun y hy => S.par _ (List.of_mem_zip hy).1) (fun h₁ hns hk => ?_) S.co S.gen S.kind
  have I := inv_startS (f := f) (cda := cda) (qual := "CarError.__init__") (tk := s.toks + ((["self", "at", "name"] : List Str).zip us).length) S hr.hd e0 hl r hcc hns hk
  refine ks_wpAt_mono (Q := fun fl s' => match fl with | .next => ∃ σ' H', Inv (cxS P w K mg base ["self", "at", "name"] "CarError.__init__" (defScope st) f cda cc A outer s H) [] σ' H' s' ∧ Q .non H' | _ => False) (E := fun _ _ => False) ?_ (fun fl s' q => ?_) (fun _ _ z => z.elim)
  · rw [hb]
    refine ks_wpAt_execs_cons ?_
    refine sup_stmt_blt (pl := pl _) (R := fun H1 => H1 = H) S lk hcode hvs hfile hcc hD F.top hmg F.op hp (by rw [har]; rfl) rfl I T.T ea T.sub T.sup T.subV
      (pa_cons (pe_var (i := 1) rfl (.inl (S.par _ (by decide +kernel)))) pa_nil) ?_ (fun s' H2 I2 e2 => ?_) rfl rfl (by simp [interactive, S.kind]) (by rfl) (hc _)
    · exact ⟨v, rfl, (by simp), ea, rfl⟩
    · subst e2
      refine wpAt_of_wpAny ?_
      have body : PSs (cxS P w K mg base ["self", "at", "name"] "CarError.__init__" (defScope st) f cda cc A outer s H2) [.Assign [.Attribute (.Name "self" q1) "at" q2] (.Name "at" q3) q4, .Assign [.Attribute (.Name "self" r1) "name" r2] (.Name "name" r3) r4] _ :=
        pss_cons (ps_ost (pe_var (i := 0) rfl (.inl (S.par _ (by decide +kernel)))) (pe_var (i := 1) rfl (.inl (S.par _ (by decide +kernel))))) (pss_one (ps_ost (pe_var (i := 0) rfl (.inl (S.par _ (by decide +kernel)))) (pe_var (i := 2) rfl (.inl (S.par _ (by decide +kernel))))))
      refine wpAny_mono (body.run [] s' _ H2 { nx := fun _ H' => Q .non H', rt := fun _ _ => False } I2 ?_) (fun fl s2 q => ?_) (fun _ _ z => z.elim)
      · refine ⟨v, rfl, _, rfl, a, C, rfl, T.T, T.nAt, .inl ⟨ea, fun dx ndx hne => ?_⟩⟩
        refine ⟨n, rfl, _, rfl, a, C, rfl, T.T, T.nNm, .inr ⟨dx, [("at", v)], upd_same, ?_, (by simp), ?_⟩⟩
        · rw [upd_ne hne, upd_same]
        · have q := k dx ndx hne
          have e : upd (upd (upd H2 dx (exd dx [("at", v)])) a (exo a C (some dx))) dx (exd dx [("name", n), ("at", v)]) = upd (upd H2 dx (exd dx [("name", n), ("at", v)])) a (exo a C (some dx)) := by
            rw [upd_swap (Ne.symm hne), upd_upd]
          show Q .non _
          rw [e]
          exact q
      · cases fl with
        | next => exact q
        | ret u =>
          obtain ⟨_, _, _, _, _, z⟩ := q
          exact z.elim
        | brk =>
          obtain ⟨_, _, _, z⟩ := q
          exact z.elim
        | cont =>
          obtain ⟨_, _, _, z⟩ := q
          exact z.elim
  · cases fl with
    | next =>
      obtain ⟨σ', H', J, q⟩ := q
      exact ⟨V.non, H', J.os, J.bare, J.base, J.hok, rfl, q⟩
    | ret u => exact q.elim
    | brk => exact q.elim
    | cont => exact q.elim
/-- class DeedWrong(CarError): def __init__(self, at): super().__init__(at, 'DeedWrong') -/
def spDW (K : PySem.W.Frag) (C B : Addr) (nm : Str) : Sp := fun vs H Q _ => ∃ (a : Addr) (v : V), vs = [.ref a, v] ∧ H a = some (exo a C none) ∧
  ∀ d, H d = none → d ≠ a → Q .non (upd (upd H d (exd d [("name", .str nm), ("at", v)])) a (exo a C (some d)))
theorem ok_sub {fd fdB : FuncData} {B C fB : Addr} {ar : Arg} {qual nm : Str} {p0 p1 p2 p3 p4 p5 p6 : Pos} {j6 : Nat} {pl : PySem.Env → Sem Bool} (F : SupFn P K "__init__" qual st f C fd) (S : SupSc ["self", "at"] (defScope st))
    (hb : defBody st = [.Expr (.Call (.Attribute (.Call (.Name "super" p0) [] [] p1) "__init__" p2) [.Name "at" p5, .Constant (.str nm) j6 p6] [] p3) p4])
    (hc : SupTree p0 p1 p2 p3 [.Name "at" p5, .Constant (.str nm) j6 p6] pl)
    (hp : ((defArgs st).posonlyargs ++ (defArgs st).args).head? = some ar) (har : ar.arg = "self") (hmg : mg "super" = none) (T : ExcC K C B) (hsub : PySem.W.mroIn K C (.ref C) = some true)
    (hm : PySem.W.ks_superIn K C C "__init__" = some (some (.ref fB))) (ht : PySem.W.typeIn K (.ref fB) = some (.type "function")) (hfB : PySem.W.fnIn K fB = true)
    (G : FnOk P w K mg base CX0 1 fB fdB ["self", "at", "name"] (spCE K B)) (bB : Binds K fdB ["self", "at", "name"] []) : FnOk P w K mg base CX0 2 f fd ["self", "at"] (spDW K C B nm) := by
  obtain ⟨oc, od, dV, kV, doc, pm, an, cda, ct, osl, cc, vs0, file, tf, ccl, cdd, ccs, cl, cld, csl, rfl, lk, hcd, hcode, hvs, hfile, hcc⟩ := F.ex
  obtain ⟨cdD, hD⟩ := F.clsD
  have len : ∀ vs H Q E, spDW K C B nm vs H Q E → vs.length = 2 := fun vs H Q E ⟨_, _, e, _⟩ => by rw [e]; rfl
  refine ⟨len, fun A outer s H args us vs Q E hr e0 hbind r hsp => ?_⟩
  have hl := len _ _ _ _ hsp
  have KX : K.In s.heap := e0.mod.kin.keeps fun b o e => (e0.bs b o e).1
  have lim : s.heap.NoLimit := e0.mod.nolimit.keeps fun b o e => (e0.bs b o e).1
  obtain ⟨a, v, rfl, ea, k⟩ := hsp
  refine ks_codeAny_call_defAt (fd := PySem.W.ksFn "__init__" qual (defArgs st) (defBody st) (defScope st) dV kV doc pm an (.ref cda) ct cc) (body := defBody st) hr.depth (KX _ _ lk) rfl lim (PySem.W.codeRec_of KX hcd) rfl hbind S.nocell (fun y hy => S.par _ (List.of_mem_zip hy).1) (fun h₁ hns hk => ?_) S.co S.gen S.kind
  have I := inv_startS (f := f) (cda := cda) (qual := qual) (tk := s.toks + ((["self", "at"] : List Str).zip us).length) S hr.hd e0 hl r hcc hns hk
  refine ks_wpAt_mono (Q := fun fl s' => match fl with | .next => ∃ σ' H', Inv (cxS P w K mg base ["self", "at"] qual (defScope st) f cda cc A outer s H) [] σ' H' s' ∧ Q .non H' | _ => False) (E := fun _ _ => False) ?_ (fun fl s' q => ?_) (fun _ _ z => z.elim)
  · rw [hb]
    refine ks_wpAt_execs_cons ?_
    refine sup_stmt_own (pl := pl _) (R := fun H1 => Q .non H1) S lk hcode hvs hfile hcc hD F.top hmg F.op hp (by rw [har]; rfl) rfl I T.T ea hsub hm ht hfB G bB (hr.deeper _)
      (pa_cons (pe_var (i := 1) rfl (.inl (S.par _ (by decide +kernel)))) (pa_cons pe_str pa_nil)) ?_ (fun s' H2 I2 e2 => ?_) rfl rfl (by simp [interactive, S.kind]) (by rfl) (hc _)
    · exact ⟨v, rfl, a, C, v, .str nm, rfl, T, ea, k⟩
    · exact wpAt_of_wpAny (wpAny_execs_nil ⟨_, H2, I2, e2⟩)
  · cases fl with
    | next =>
      obtain ⟨σ', H', J, q⟩ := q
      exact ⟨V.non, H', J.os, J.bare, J.base, J.hok, rfl, q⟩
    | ret u => exact q.elim
    | brk => exact q.elim
    | cont => exact q.elim
end
end Ax
set_option maxRecDepth 100000
set_option maxHeartbeats 4000000
/-! Ax: raise, try .. except X as n, n.f in its suite. -/
namespace Ax
open PySem PySem.Spec PyProof.Rows L2
section
variable {X : Cx} {W : WX} {e a b c o : Expr} {es : List Expr} {pos : Pos} {fa : PL} {TA TB : LTa} {Tb : LTs} {k j : Nat} {f C B : Addr} {x m n : Str}
/-- raise C(v): the exception carries at = v, name = nm -/
def sRaise (C : Addr) (nm : Str) (TA : LTa) : LTs := fun L ds S => TA ds S (fun xs S1 => ∃ d, xs = [d] ∧ L.xc ds ⟨C, ["name", "at"], [.str nm, d]⟩ S1) (L.xc ds)
structure XMk (P : Program) (w : World) (K : PySem.W.Frag) (mg : Str → Option Value) (base : Heap) (k : Nat) (C B : Addr) (nm : Str) : Prop where
  T : OexC K C
  ex : ∃ (fI : Addr) (fd : FuncData), PySem.W.findIn K (.ref C) "__init__" = some (some (.ref fI)) ∧ PySem.W.typeIn K (.ref fI) = some (.type "function") ∧ FnOk P w K mg base CX0 k fI fd ["self", "at"] (spDW K C B nm) ∧ Binds K fd ["self", "at"] []
theorem upd_made {H : Hp} {a d : Addr} {o1 o2 o3 o4 : HO} (ha : H a = none) (hne : d ≠ a) : upd (del (upd (upd (upd H a o1) d o2) a o3) a) d o4 = upd H d o4 := by
  funext b
  unfold upd L2.del
  by_cases h : b = d
  · simp [h]
  · by_cases h2 : b = a
    · subst h2
      simp [h, ha]
    · simp [h, h2]
theorem ls_raise {nm : Str} {p2 p3 : Pos} (G : XMk X.prog X.w X.K X.mg X.base k C B nm) (cx : Cxt X W) (hr : Room j X.A) (hk : k + 1 ≤ j) (hm : X.mg x = some (.ref C)) (ha : LA X W (e :: es) TA) (hg : Gl X x := by rfl)
    (hdb : (x == ("__debug__" : Str)) = false := by decide) (he : starEach (e :: es) X.env = (false, eval e X.env) :: starEach es X.env := by rfl) (hpl : (backTo pos (starEach es X.env)).any (·.1) = false := by rfl) : LS X W (.Raise (some (.Call (.Name x p2) (e :: es) [] pos)) none p3) (sRaise C nm TA) := by
  obtain ⟨fI, fd, iC, tI, F1, hb⟩ := G.ex
  refine ps_weak (ps_raise cx.calm cx.tk (pmk_oex G.T iC tI F1 (hr.mono hk) hb .nil (fun _ _ _ _ _ _ _ z => z.elim) hg hm ha hdb he hpl)) fun D σ H ⟨F, ds, S, L, R, sl, q, eo⟩ => ?_
  refine lowA_run R sl q (fun xs S1 vs H1 q1 R1 k1 d1 => ?_) (eo.x sl)
  obtain ⟨d, rfl, hx⟩ := q1
  obtain ⟨v, rfl, dv⟩ := dats1 d1
  refine ⟨by simp, fun a ha => ⟨a, v, rfl, upd_same, fun dd hdd hne => ?_⟩⟩
  have hdd1 : H1 dd = none := by
    rw [upd_ne hne] at hdd
    exact hdd
  refine ⟨rfl, dd, _, upd_same, (by rw [upd_ne hne, upd_same]), hdd1, ?_⟩
  rw [upd_made ha hne]
  refine eo.xc ds _ S1 _ _ σ _ hx (R1.new hdd1) (k1.trans (R1.kn hdd1)) (sl.keep (k1.trans (R1.kn hdd1))) ⟨rfl, dd, [.str nm, v], rfl, ⟨upd_same, R1.free hdd1, R1.nf hdd1⟩, rfl, ?_⟩
  exact Dats.cons (dat_str.mpr rfl) (Dats.cons (Dat.keep (R1.kn hdd1) _ dv) Dats.nil)
/-! try -/
def sTryAs (M : Addr → Option Bool) (i : Nat) (Tb : LTs) (Ts : Addr → Addr → Addr → LTs) : LTs := fun L ds S =>
  Tb { L with xc := fun ds' x S' => ∃ b, M x.cls = some b ∧ (b = true → ∀ a dd, Ts a x.cls dd { nx := fun ds2 S2 => L.nx (ds2.set i none) S2, rt := L.rt, bk := fun ds2 S2 => L.bk (ds2.set i none) S2, ct := fun ds2 S2 => L.ct (ds2.set i none) S2, xc := fun _ _ _ => False } (ds'.set i (some (.exc a dd x.cls x.names x.fs))) S') ∧
    (b = false → L.xc ds' x S') } ds S
def tsOf (K : PySem.W.Frag) (Ts : Addr → Addr → Addr → LTs) (a : Addr) (cls : Value) (d : Option Addr) : TS := fun D σ H => ∃ C dd, cls = .ref C ∧ d = some dd ∧ lowS K W0 (Ts a C dd) D σ H
theorem Cxt.tr {pn : List (Addr × Obj)} {xe : Value → Shared → Prop} {W' : WX} (cx : Cxt X W) (t : Takes (X.tr pn xe) W') (p : PassesOwn (model X.prog X.w) X.A X.env xe) : Cxt (X.tr pn xe) W' := ⟨t, p, cx.calm, cx.nd⟩
theorem ls_try_as {body suite : List Stmt} {b₀ : Stmt} {i : Nat} {np pos' : Pos} {M : Addr → Option Bool} {Ts : Addr → Addr → Addr → LTs} {C0 : Addr} (cx : Cxt X W) (hc : Names X x (.ref C0)) (hM : ∀ C b, M C = some b → PySem.W.exmOne X.K (.ref C) (.ref C0) = some b)
    (hb : ∀ (W' : WX) (pn : List (Addr × Obj)) (xe : Value → Shared → Prop), Cxt (X.tr pn xe) W' → LSs (X.tr pn xe) W' body Tb)
    (hsu : ∀ (a C dd : Addr) (oe : Obj) (pn : List (Addr × Obj)), Zc (.ref C) (some dd) oe → (∃ vs, oe.data = .fields vs) → LSs (X.suite a ((a, oe) :: pn)) W0 (b₀ :: suite) (Ts a C dd))
    (hs : X.stack = X.env :: X.outer := by rfl) (hf : X.env.frame = some X.env.locals := by rfl) (hi : X.N[i]? = some n := by rfl) (hln : X.env.kindOf n = some .local := by rfl) :
    LS X W (.Try body [.ExceptHandler (some (.Name x np)) (some n) (b₀ :: suite) pos'] [] [] pos) (sTryAs M i Tb Ts) := by
  refine ps_weak (ps_try_as (tb := fun W' => lowS X.K W' Tb) (ts := tsOf X.K Ts) hs hf cx.nd hi hln hc cx.tk (fun W' pn xe t p => hb W' pn xe (cx.tr t p)) (fun a oe cls d pn hz hv => ?_)) fun D σ H ⟨F, ds, S, L, R, sl, q, eo⟩ => ?_
  · refine ⟨fun pins s σ H D I ⟨C, dd, ec, ed, h⟩ => ?_⟩
    subst ec
    subst ed
    exact (hsu a C dd oe pn hz hv).run pins s σ H D I h
  · refine ⟨F, ds, S, _, R, sl, q, ⟨eo.nx, eo.rt, eo.bk, eo.ct, fun ds' x' S' cls da σ' H' ⟨b, hb1, hy, hn⟩ R' k' sl' ex => ?_⟩⟩
    obtain ⟨ec, dd, vs, ed, im, l, dv⟩ := id ex
    subst ec
    subst ed
    refine ⟨b, hM _ _ hb1, fun hbt a ha => ⟨_, dd, rfl, rfl, ?_⟩, fun hbf => eo.xc _ _ _ _ _ _ _ (hn hbf) R' k' sl' ex⟩
    exact ⟨F, _, S', _, R', sl'.set (dat_exc.mpr ⟨rfl, vs, im, l, dv⟩), hy hbt a dd, ⟨fun ds2 S2 σ2 H2 q2 R2 k2 sl2 => eo.nx _ _ _ _ q2 R2 (k'.trans k2) sl2.gone, fun d S2 v H2 q2 R2 k2 dv2 => eo.rt _ _ _ _ q2 R2 (k'.trans k2) dv2,
      fun ds2 S2 σ2 H2 q2 R2 k2 sl2 => eo.bk _ _ _ _ q2 R2 (k'.trans k2) sl2.gone, fun ds2 S2 σ2 H2 q2 R2 k2 sl2 => eo.ct _ _ _ _ q2 R2 (k'.trans k2) sl2.gone, fun _ _ _ _ _ _ _ z => z.elim⟩⟩
/-! n.f -/
def pXf (a C dd : Addr) (Cs : List Addr) (m : Str) (g : PX) : PX := fun ds S => match g ds S with
  | some (.exc a' dd' C' ns xs) => if a' = a ∧ dd' = dd ∧ C' = C ∧ C ∈ Cs then (ns.zip xs).lookup m else none
  | _ => none
theorem lookup_cons' {α : Type} (f g : Str) (y : α) (fs : List (Str × α)) : ((f, y) :: fs).lookup g = if g = f then some y else fs.lookup g := by
  by_cases h : g = f
  · subst h
    simp [List.lookup]
  · have e : (g == f) = false := by simpa using h
    rw [if_neg h]
    simp [List.lookup, e]
theorem zip_lookD {K : PySem.W.Frag} {F : Addr → Prop} {S : Sto} {H : Hp} {m : Str} {d : Dt} : ∀ {ns : List Str} {xs : List Dt} {vs : List V}, Dats K F S H xs vs → (ns.zip xs).lookup m = some d → ∃ v, (ns.zip vs).lookup m = some v ∧ Dat K F S H d v
  | [], _, _, _, h => by simp at h
  | n :: ns, [], vs, _, h => by simp at h
  | n :: ns, y :: xs, vs, dv, h => by
    obtain ⟨v, r, rfl, h1, h2⟩ := dats_cons.mp dv
    rw [List.zip_cons_cons, lookup_cons'] at h
    rw [List.zip_cons_cons]
    by_cases q : m = n
    · rw [if_pos q] at h
      cases h
      exact ⟨v, by rw [lookup_cons', if_pos q], h1⟩
    · rw [if_neg q] at h
      obtain ⟨w, h3, h4⟩ := zip_lookD h2 h
      exact ⟨w, by rw [lookup_cons', if_neg q]; exact h3, h4⟩
theorem lp_xf {a C dd : Addr} {oe : Obj} {pn : List (Addr × Obj)} {Cs : List Addr} {g : PX} (hC : ∀ C ∈ Cs, XfC X.K C ∧ PySem.W.findIn X.K (.ref C) m = some none) (hz : Zc (.ref C) (some dd) oe) (hf : ∃ vs, oe.data = .fields vs)
    (he : LP (X.suite a ((a, oe) :: pn)) e g) (hb : attributeBase e m X.env (eval e X.env) = eval e X.env := by rfl) : LP (X.suite a ((a, oe) :: pn)) (.Attribute e m pos) (pXf a C dd Cs m g) := by
  by_cases hin : C ∈ Cs
  · obtain ⟨T, hno⟩ := hC C hin
    refine pe_weak (pe_xf T hno hz hf he hb) fun σ H Q ⟨F, ds, S, d, R, sl, hd, k⟩ => ?_
    unfold pXf at hd
    split at hd
    · rename_i a' dd' C' ns xs hx
      split at hd
      · rename_i hh
        obtain ⟨rfl, rfl, rfl, _⟩ := hh
        refine ⟨F, ds, S, _, R, sl, hx, fun v H1 R1 k1 dv => ?_⟩
        obtain ⟨e1, vs, im, l, dvs⟩ := dat_exc.mp dv
        obtain ⟨w, h1, h2⟩ := zip_lookD dvs hd
        exact ⟨e1, rfl, _, _, w, rfl, im.1, h1, k w H1 R1 k1 h2⟩
      · cases hd
    · cases hd
  · refine pe_weak (t := fun _ _ _ => False) ⟨fun _ _ _ _ _ _ z => z.elim⟩ fun σ H Q ⟨F, ds, S, d, R, sl, hd, k⟩ => ?_
    unfold pXf at hd
    split at hd
    · split at hd
      · rename_i hh
        exact hin hh.2.2.2
      · cases hd
    · cases hd
end
end Ax
set_option maxRecDepth 100000
set_option maxHeartbeats 4000000
/-! Ax: what is never reached; x.append(e); {"k": e, ..}. -/
namespace Ax
open PySem PySem.Spec PyProof.Rows L2
section
variable {X : Cx} {W : WX} {e a b c o : Expr} {es : List Expr} {st : Stmt} {sts : List Stmt} {pos : Pos} {f : PX} {fa : PL} {TA TB : LTa} {Te : LTe}
/-! never reached -/
def tDead : LTe := fun _ _ _ _ => False
def bDead : LTb := fun _ _ _ _ => False
def sDead : LTs := fun _ _ _ => False
theorem le_dead : LE X W e tDead := pe_weak (t := fun _ _ _ => False) ⟨fun _ _ _ _ _ _ z => z.elim⟩ fun _ _ _ ⟨_, _, _, _, _, _, _, z, _⟩ => z
theorem lb_dead : LB X W e bDead := pt_weak (t := fun _ _ _ => False) ⟨fun _ _ _ _ _ _ z => z.elim⟩ fun _ _ _ ⟨_, _, _, _, _, _, _, z, _⟩ => z
theorem ls_dead : LS X W st sDead := ps_weak (t := fun _ _ _ => False) ⟨fun _ _ _ _ _ _ z => z.elim⟩ fun _ _ _ ⟨_, _, _, _, _, _, z, _⟩ => z
theorem lss_dead : LSs X W sts sDead := pss_weak (t := fun _ _ _ => False) ⟨fun _ _ _ _ _ _ z => z.elim⟩ fun _ _ _ ⟨_, _, _, _, _, _, z, _⟩ => z
/-! o.append(e) -/
def tApp (f : PX) (TA : LTa) : LTe := fun ds S Φ Ψ => ∃ p zs, f ds S = some (.adr p) ∧ S p = some (.lst zs) ∧ TA ds S (fun ys S1 => ∃ xs y, ys = [y] ∧ S1 p = some (.lst xs) ∧ xs.length < 1000000 ∧ Φ .non (S1.put p (.lst (xs ++ [y])))) Ψ
theorem le_append {apos : Pos} (ho : LP X o f) (ha : LA X W (e :: es) TA) (hbase : attributeBase o "append" X.env (eval o X.env) = eval o X.env := by rfl)
    (hfew : ((backTo pos (starEach (e :: es) X.env)).all (fun x => !x.1) && (backToKw pos (keywordEach [] X.env)).all (fun x => x.1.isSome)
      && decide ((e :: es).length + ([] : List Keyword).length + (if ([] : List Keyword).isEmpty then 0 else 1) < 30)) = true := by rfl)
    (hline : (apos.endLine == pos.line) = true := by rfl) (hs : starEach (e :: es) X.env = (false, eval e X.env) :: starEach es X.env := by rfl) (hplain : (backTo pos (starEach es X.env)).any (·.1) = false := by rfl) :
    LE X W (.Call (.Attribute o "append" apos) (e :: es) [] pos) (tApp f TA) :=
  pe_weak (pe_bm PySem.F.plainAttrs_list PySem.F.slot_list_append PySem.F.type_list_append mt_append ho ha hbase hfew hline hs hplain) fun σ H Q ⟨F, ds, S, Φ, Ψ, R, sl, ⟨p, zs, e1, e2, q⟩, k, x⟩ =>
  ⟨F, ds, S, _, R, sl, e1, fun v H1 R1 k1 d1 => by
    obtain ⟨vs, h1, h2⟩ := R1.mo e2
    rw [dat_adr.mp d1]
    refine ⟨.inl ⟨rfl, vs, SqL.of h1⟩, lowA_run R1 (sl.keep k1) q (fun ys S2 ws H2 ⟨xs, y, e3, e4, hz, q2⟩ R2 k2 d2 => ?_) (x.keep k1)⟩
    subst e3
    obtain ⟨w, rfl, dw⟩ := dats1 d2
    obtain ⟨vs2, h3, h4⟩ := R2.mo e4
    refine ⟨p, vs2, w, rfl, rfl, h3, by rw [h4.length, sizeLine_eq]; omega, ?_⟩
    have k3 := R2.kw e4 (m := .lst (xs ++ [y])) (o := .lst (vs2 ++ [w]))
    exact k _ _ _ _ q2 (R2.put (R2.1 p _ e4).1 k3 ⟨_, upd_same, Dats.append (Dats.keep k3 _ h4) (Dats.cons (Dat.keep k3 _ dw) Dats.nil)⟩) ((k1.trans k2).trans k3) (dat_non.mpr rfl)⟩
/-! {"k": e, ..}, to be changed -/
def tAll : List LTe → LTa
  | [] => ofL aNil
  | T :: r => tACons T (tAll r)
def dKeys (ks : List Str) : List Key := ks.map Sum.inr
def tDic (ks : List Str) (Ts : List LTe) : LTe := fun ds S Φ Ψ => tAll Ts ds S (fun xs S1 => ∀ p, S1 p = none → Φ (.adr p) (S1.put p (.dic (dKeys ks) xs))) Ψ
def trsOf (K : PySem.W.Frag) (W : WX) : List Str → List LTe → List (TE × TE)
  | [], _ => []
  | _, [] => []
  | k :: ks, T :: Ts => (tC (.str k), low K W T) :: trsOf K W ks Ts
theorem pairs_low {K : PySem.W.Frag} {F : Addr → Prop} : ∀ {ks : List Str} {Ts : List LTe} {ds : Env} {S : Sto} {Φ : List Dt → Sto → Prop} {Ψ : Xt} {σ : L2.St} {H : Hp} {Q : List (V × V) → Hp → Prop}, ks.length = Ts.length → Rep K F S H → Sl K F S H σ ds → tAll Ts ds S Φ Ψ → XOk K W Ψ σ F S H →
    (∀ xs S' vs H', Φ xs S' → Rep K F S' H' → Keep F S H S' H' → Dats K F S' H' xs vs → xs.length = ks.length → Q ((ks.map V.str).zip vs) H') → tPairs (trsOf K W ks Ts) σ H Q
  | [], [], ds, S, Φ, Ψ, σ, H, Q, _, R, sl, ⟨xs, e, q⟩, x, k => by
    cases e
    exact k [] S [] H q R Keep.refl Dats.nil rfl
  | [], _ :: _, _, _, _, _, _, _, _, h, _, _, _, _, _ => by simp at h
  | _ :: _, [], _, _, _, _, _, _, _, h, _, _, _, _, _ => by simp at h
  | n :: ks, T :: Ts, ds, S, Φ, Ψ, σ, H, Q, hl, R, sl, q, x, k => by
    show low K W T σ H fun y H2 => tPairs (trsOf K W ks Ts) σ H2 fun ps H3 => Q ((V.str n, y) :: ps) H3
    refine low_run R sl q (fun d S1 v H1 q1 R1 k1 dv => ?_) x
    refine pairs_low (by simpa using hl) R1 (sl.keep k1) q1 (x.keep k1) fun xs S' vs H' q2 R2 k2 d2 h2 => ?_
    exact k (d :: xs) S' (v :: vs) H' q2 R2 (k1.trans k2) (Dats.cons (Dat.keep k2 _ dv) d2) (by simpa using h2)
inductive LDs (X : Cx) (W : WX) : List (Option Expr) → List Expr → List Str → List LTe → Prop
  | nil : LDs X W [] [] [] []
  | cons {k : Str} {j : Nat} {p : Pos} {v : Expr} {T : LTe} {keys : List (Option Expr)} {vals : List Expr} {ks : List Str} {Ts : List LTe} (h : LE X W v T) (r : LDs X W keys vals ks Ts) : LDs X W (some (.Constant (.str k) j p) :: keys) (v :: vals) (k :: ks) (T :: Ts)
theorem LDs.pps {keys : List (Option Expr)} {vals : List Expr} {ks : List Str} {Ts : List LTe} (h : LDs X W keys vals ks Ts) : PPs X pos keys vals (trsOf X.K W ks Ts) ∧ keys.all (·.isSome) = true ∧ keys.length = vals.length ∧ ks.length = Ts.length ∧ keys.length = ks.length := by
  induction h with
  | nil => exact ⟨pps_nil, rfl, rfl, rfl, rfl⟩
  | cons h r ih => exact ⟨pps_cons pe_str h ih.1, by simpa using ih.2.1, by simpa using ih.2.2.1, by simpa using ih.2.2.2.1, by simpa using ih.2.2.2.2⟩
theorem any_zip_no {ks : List Key} {vs : List V} {k : Key} (h : ¬ k ∈ ks) : (ks.zip vs).any (fun kv => decide (kv.1 = k)) = false := by
  rw [List.any_eq_false]
  intro p hp
  have : p.1 ∈ ks := (List.of_mem_zip hp).1
  simp only [decide_eq_true_eq]
  intro z
  exact h (z ▸ this)
theorem merge_zip : ∀ {ks : List Key} {vs : List V} {acc : List (Key × V)}, ks.Nodup → (∀ k ∈ ks, acc.any (fun kv => decide (kv.1 = k)) = false) → mergeK acc (ks.zip vs) = acc ++ ks.zip vs
  | [], vs, acc, _, _ => by simp [mergeK]
  | k :: ks, [], acc, _, _ => by simp [mergeK]
  | k :: ks, v :: vs, acc, nd, h => by
    obtain ⟨n1, n2⟩ := List.nodup_cons.mp nd
    rw [List.zip_cons_cons]
    show mergeK (putK acc k v) (ks.zip vs) = _
    have e : putK acc k v = acc ++ [(k, v)] := by
      have := h k List.mem_cons_self
      unfold putK
      simp only [this]
      rfl
    rw [e, merge_zip n2 (fun k' hk' => ?_), List.append_assoc]
    · rfl
    · rw [List.any_append, h k' (List.mem_cons_of_mem _ hk')]
      have : ¬ k = k' := fun z => n1 (z ▸ hk')
      simp [this]
theorem kvs_map : ∀ {ks : List Str} {vs : List V}, (ks.map V.str).zip vs = ((dKeys ks).zip vs).map fun kv => (kV kv.1, kv.2)
  | [], vs => rfl
  | k :: ks, [] => rfl
  | k :: ks, v :: vs => by
    show (V.str k, v) :: (ks.map V.str).zip vs = _
    rw [kvs_map]
    rfl
theorem nodup_inr : ∀ {ks : List Str}, ks.Nodup → (dKeys ks).Nodup
  | [], _ => List.nodup_nil
  | k :: ks, h => by
    obtain ⟨h1, h2⟩ := List.nodup_cons.mp h
    refine List.nodup_cons.mpr ⟨fun z => ?_, nodup_inr h2⟩
    obtain ⟨y, hy, e⟩ := List.mem_map.mp z
    cases e
    exact h1 hy
theorem le_dic {keys : List (Option Expr)} {vals : List Expr} {ks : List Str} {Ts : List LTe} (h : LDs X W keys vals ks Ts) (nd : ks.Nodup := by decide +kernel) (h0 : keys ≠ [] := by simp) (h15 : keys.length ≤ 15 := by decide) : LE X W (.Dict keys vals pos) (tDic ks Ts) := by
  obtain ⟨pp, h1, h2, h3, h4⟩ := h.pps (pos := pos)
  refine pe_weak (pe_disp pp h1 h2 h0 h15) fun σ H Q ⟨F, ds, S, Φ, Ψ, R, sl, q, k, x⟩ p hp => ?_
  have nP : ∀ {a : Addr} {o : HO}, H a = some o → a ≠ p := fun h => ne_of_none h hp
  have mv1 : Mv F S H (fun a => F a ∨ a = p) S (upd H p (.dK [])) := fun b u a1 a2 a3 => ⟨by rw [upd_ne (nP a1)]; exact a1, a2, fun z => z.elim a3 (nP a1)⟩
  have R1 : Rep X.K (fun a => F a ∨ a = p) S (upd H p (.dK [])) := ⟨fun a m e => by
    obtain ⟨o, ho⟩ := (R.mo e).here
    exact ⟨fun z => z.elim (R.1 a m e).1 (nP ho), (R.mo e).move mv1 (upd_ne (nP ho))⟩, fun a ha => by
    rcases ha with ha | ha
    · obtain ⟨o, ho⟩ := R.2 a ha
      exact ⟨o, by rw [upd_ne (nP ho)]; exact ho⟩
    · rw [ha]
      exact ⟨_, upd_same⟩⟩
  have sl1 : Sl X.K (fun a => F a ∨ a = p) S (upd H p (.dK [])) σ ds := ⟨sl.1, fun j u hu => by
    obtain ⟨v, a1, a2⟩ := sl.2 j u hu
    exact ⟨v, a1, Dat.move mv1 _ a2⟩⟩
  have kp : ∀ {S' : Sto} {H' : Hp}, Keep (fun a => F a ∨ a = p) S (upd H p (.dK [])) S' H' → Keep F S H S' H' := fun {S' H'} k' => ⟨fun a o a1 a2 a3 => k'.1 a o (by rw [upd_ne (nP a1)]; exact a1) a2 (fun z => z.elim a3 (nP a1)), fun a ha => by
    obtain ⟨o, ho⟩ := R.2 a ha
    rw [k'.2 a (.inl ha), upd_ne (nP ho)]⟩
  have rp : ∀ {S' : Sto} {H' : Hp}, Rep X.K (fun a => F a ∨ a = p) S' H' → Rep X.K F S' H' := fun {S' H'} R' => ⟨fun a m e => ⟨fun z => (R'.1 a m e).1 (.inl z), (R'.mo e).move (fun b u a1 a2 a3 => ⟨a1, a2, fun z => a3 (.inl z)⟩) rfl⟩, fun a ha => R'.2 a (.inl ha)⟩
  refine pairs_low h3 R1 sl1 q (fun x' S' cls da H' a1 a2 a3 a4 => ?_) fun xs S' vs H' q' R' k' d' hl' => ?_
  · obtain ⟨ec, dd, ws, ed, im, l, dv⟩ := a4
    exact x x' S' cls da H' a1 (rp a2) (kp a3) ⟨ec, dd, ws, ed, im.move (fun b u b1 b2 b3 => ⟨b1, b2, fun z => b3 (.inl z)⟩), l, Dats.move (fun b u b1 b2 b3 => ⟨b1, b2, fun z => b3 (.inl z)⟩) _ dv⟩
  · have hpp : H' p = some (.dK []) := (k'.2 p (.inr rfl)).trans upd_same
    have hSp : S' p = none := by
      cases e : S' p with
      | none => rfl
      | some m => exact absurd (.inr rfl) (R'.1 p m e).1
    have hFp : ¬ F p := R.nf hp
    refine ⟨hpp, (dKeys ks).zip vs, kvs_map, ?_, ?_⟩
    · rw [List.length_zip]
      have : (dKeys ks).length = ks.length := by simp [dKeys]
      omega
    · rw [merge_zip (nodup_inr nd) (fun _ _ => rfl), List.nil_append]
      have mv2 : Mv (fun a => F a ∨ a = p) S' H' F (S'.put p (.dic (dKeys ks) xs)) (upd H' p (.dK ((dKeys ks).zip vs))) := fun b u a1 a2 a3 => by
        have nb : b ≠ p := fun z => a3 (.inr z)
        exact ⟨by rw [upd_ne nb]; exact a1, by rw [put_ne nb]; exact a2, fun z => a3 (.inl z)⟩
      refine k _ _ _ _ (q' p hSp) ⟨fun a m e => ?_, fun a ha => ?_⟩ ⟨fun a o a1 a2 a3 => ?_, fun a ha => ?_⟩ (dat_adr.mpr rfl)
      · by_cases ea : a = p
        · subst ea
          rw [put_same] at e
          cases e
          exact ⟨hFp, vs, upd_same, by simp [dKeys, hl'], Dats.move mv2 _ d'⟩
        · rw [put_ne ea] at e
          exact ⟨fun z => (R'.1 a m e).1 (.inl z), (R'.mo e).move mv2 (upd_ne ea)⟩
      · have na : a ≠ p := fun z => hFp (z ▸ ha)
        obtain ⟨o, ho⟩ := R'.2 a (.inl ha)
        exact ⟨o, by rw [upd_ne na]; exact ho⟩
      · have na := nP a1
        obtain ⟨b1, b2⟩ := (kp k').1 a o a1 a2 a3
        exact ⟨by rw [upd_ne na]; exact b1, by rw [put_ne na]; exact b2⟩
      · have na : a ≠ p := fun z => hFp (z ▸ ha)
        rw [upd_ne na]
        exact (kp k').2 a ha
/-! sources of comprehensions -/
theorem li_weak {tg it : Expr} {T T' : LTa} (h : LI X W tg it T) (k : ∀ ds S Φ Ψ, T' ds S Φ Ψ → T ds S Φ Ψ) : LI X W tg it T' := pi_weak h fun σ H R0 ⟨F, ds, S, Φ, Ψ, R, sl, q, z, x⟩ => ⟨F, ds, S, Φ, Ψ, R, sl, k _ _ _ _ q, z, x⟩
def inR (n : Int) : Prop := -(2 ^ 62) ≤ n ∧ n < 2 ^ 62
instance {n : Int} : Decidable (inR n) := inferInstanceAs (Decidable (_ ∧ _))
def pRng1 (fa : PL) : PL := fun ds S => match fa ds S with
  | some [.int n] => if inR n then some (rng 0 n.toNat) else none
  | _ => none
def pRng2 (fa : PL) : PL := fun ds S => match fa ds S with
  | some [.int m, .int n] => if inR m ∧ inR n then some (rng m (n - m).toNat) else none
  | _ => none
def pSeq (f : PX) : PL := fun ds S => (f ds S).bind dFix
theorem li_pr1 {tg : Expr} {p2 : Pos} (hm : X.mg "range" = none) (ha : LPA X [a] fa) (hg : Gl X "range" := by rfl) (hs : starEach [a] X.env = [(false, eval a X.env)] := by rfl) : LI X W tg (.Call (.Name "range" p2) [a] [] pos) (ofL (pRng1 fa)) :=
  li_weak (li_rng1 hm (la_p ha) hg hs) fun ds S Φ Ψ ⟨xs, e, q⟩ => by
    unfold pRng1 at e
    split at e
    · rename_i n hn
      split at e
      · rename_i hr
        cases e
        exact ⟨_, hn, n, rfl, hr, q⟩
      · cases e
    · cases e
theorem li_pr2 {tg : Expr} {p2 : Pos} (hm : X.mg "range" = none) (ha : LPA X [a, b] fa) (hg : Gl X "range" := by rfl) (hs : starEach [a, b] X.env = [(false, eval a X.env), (false, eval b X.env)] := by rfl) (hs2 : starEach [b] X.env = [(false, eval b X.env)] := by rfl) : LI X W tg (.Call (.Name "range" p2) [a, b] [] pos) (ofL (pRng2 fa)) :=
  li_weak (li_rng2 hm (la_p ha) hg hs hs2) fun ds S Φ Ψ ⟨xs, e, q⟩ => by
    unfold pRng2 at e
    split at e
    · rename_i m n hn
      split at e
      · rename_i hr
        cases e
        exact ⟨_, hn, m, n, rfl, ⟨hr.1.1, hr.1.2, hr.2.1, hr.2.2⟩, q⟩
      · cases e
    · cases e
theorem li_ps {tg : Expr} (h : LP X e f) : LI X W tg e (ofL (pSeq f)) := li_weak (li_seq (le_p h)) fun ds S Φ Ψ ⟨xs, e, q⟩ => by
  unfold pSeq at e
  cases hx : f ds S with
  | none =>
    rw [hx] at e
    cases e
  | some d =>
    rw [hx, Option.bind_some] at e
    exact ⟨d, hx, xs, e, q⟩
abbrev pNeg (f : PX) : PX := pUn (fun _ d => match d with | .int i => some (.int (-i)) | _ => none) f
end
end Ax
set_option maxRecDepth 100000
set_option maxHeartbeats 4000000
/-! Ax: equations of the readings, for simp; rules for sequences and loops. -/
namespace Ax
open PySem PySem.Spec PyProof.Rows L2
section
variable {S : Sto} {a b : Addr} {xs ys : List Dt} {i j : Int} {x y : Str} {c d : Bool}
theorem atI_nat {α : Type} (xs : List α) (k : Nat) : atI xs (k : Int) = xs[k]? := by
  unfold atI ixN
  rw [if_pos (by omega)]
  by_cases h : (k : Int) < xs.length
  · rw [if_pos h]; rfl
  · rw [if_neg h]
    exact (List.getElem?_eq_none (by omega)).symm
theorem at0 {α : Type} (xs : List α) : atI xs 0 = xs[0]? := atI_nat xs 0
theorem at1 {α : Type} (xs : List α) : atI xs 1 = xs[1]? := atI_nat xs 1
theorem at2 {α : Type} (xs : List α) : atI xs 2 = xs[2]? := atI_nat xs 2
theorem at3 {α : Type} (xs : List α) : atI xs 3 = xs[3]? := atI_nat xs 3
theorem at4 {α : Type} (xs : List α) : atI xs 4 = xs[4]? := atI_nat xs 4
theorem at5 {α : Type} (xs : List α) : atI xs 5 = xs[5]? := atI_nat xs 5
theorem at6 {α : Type} (xs : List α) : atI xs 6 = xs[6]? := atI_nat xs 6
theorem at7 {α : Type} (xs : List α) : atI xs 7 = xs[7]? := atI_nat xs 7
theorem atI_of {α : Type} {xs : List α} {i : Int} {x : α} (h : 0 ≤ i) (e : xs[i.toNat]? = some x) : atI xs i = some x := by
  have := atI_nat xs i.toNat
  rw [Int.toNat_of_nonneg h] at this
  rw [this, e]
theorem ixN_nat {n : Nat} {k : Nat} (h : k < n) : ixN n (k : Int) = some k := by
  unfold ixN
  rw [if_pos (by omega), if_pos (by omega)]
  rfl
theorem dLst_lst : dLst S (.lst xs) = some xs := rfl
theorem dLst_adr (h : S a = some (.lst xs)) : dLst S (.adr a) = some xs := by simp [dLst, h]
theorem dTup_tup : dTup (.tup xs) = some xs := rfl
theorem dLen_lst : dLen S (.lst xs) = some xs.length := rfl
theorem dLen_tup : dLen S (.tup xs) = some xs.length := rfl
theorem dLen_adr (h : S a = some (.lst xs)) : dLen S (.adr a) = some xs.length := by simp [dLen, dLst, h]
theorem dSeq_lst : dSeq S (.lst xs) = some xs := rfl
theorem dSeq_tup : dSeq S (.tup xs) = some xs := rfl
theorem dSeq_scr {ns : List Int} : dSeq S (.scr ns) = some (ns.map .int) := rfl
theorem dSeq_adr (h : S a = some (.lst xs)) : dSeq S (.adr a) = some xs := by simp [dSeq, dLst, h]
theorem dIx_lst : dIx S (.lst xs) (.int i) = atI xs i := rfl
theorem dIx_tup : dIx S (.tup xs) (.int i) = atI xs i := rfl
theorem dIx_adr (h : S a = some (.lst xs)) : dIx S (.adr a) (.int i) = atI xs i := by simp [dIx, dLst, h]
theorem dIx_of {d : Dt} (h : dLst S d = some xs) : dIx S d (.int i) = atI xs i := by simp [dIx, h]
theorem dLen_of {d : Dt} (h : dLst S d = some xs) : dLen S d = some xs.length := by
  cases d <;> first | (simp [dLst] at h; done) | simp [dLen, h]
theorem dSeq_of {d : Dt} (h : dLst S d = some xs) : dSeq S d = some xs := by
  cases d <;> first | (simp [dLst] at h; done) | simp [dSeq, h]
theorem dEq_int : dEq S (.int i) (.int j) = some (.bl (decide (i = j))) := rfl
theorem dEq_str : dEq S (.str x) (.str y) = some (.bl (decide (x = y))) := rfl
theorem dEq_bl : dEq S (.bl c) (.bl d) = some (.bl (decide (c = d))) := rfl
theorem dEq_nn : dEq S .non .non = some (.bl true) := rfl
theorem dEq_ni : dEq S .non (.int j) = some (.bl false) := rfl
theorem dEq_in : dEq S (.int i) .non = some (.bl false) := rfl
theorem dEq_ns : dEq S .non (.str y) = some (.bl false) := rfl
theorem dEq_sn : dEq S (.str y) .non = some (.bl false) := rfl
theorem dEq_is : dEq S (.int i) (.str y) = some (.bl false) := rfl
theorem dEq_si : dEq S (.str x) (.int j) = some (.bl false) := rfl
theorem dNe_int : dNe S (.int i) (.int j) = some (.bl (!decide (i = j))) := rfl
theorem dNe_str : dNe S (.str x) (.str y) = some (.bl (!decide (x = y))) := rfl
theorem dNe_ni : dNe S .non (.int j) = some (.bl true) := rfl
theorem dNe_in : dNe S (.int i) .non = some (.bl true) := rfl
theorem dAdd_int : dAdd S (.int i) (.int j) = some (.int (i + j)) := rfl
theorem dMul_l (h : -(2 ^ 64) < i ∧ i < 2 ^ 64) : dMul S (.int i) (.int j) = some (.int (i * j)) := if_pos (.inl h)
theorem dMul_r (h : -(2 ^ 64) < j ∧ j < 2 ^ 64) : dMul S (.int i) (.int j) = some (.int (i * j)) := if_pos (.inr h)
theorem isi_bool_non : dIsi "bool" S .non = some (.bl false) := by rfl
theorem isi_bool_bl : dIsi "bool" S (.bl c) = some (.bl true) := by rfl
theorem isi_bool_int : dIsi "bool" S (.int i) = some (.bl false) := by rfl
theorem isi_bool_str : dIsi "bool" S (.str x) = some (.bl false) := by rfl
theorem isi_bool_lst : dIsi "bool" S (.lst xs) = some (.bl false) := by rfl
theorem isi_bool_tup : dIsi "bool" S (.tup xs) = some (.bl false) := by rfl
theorem isi_bool_dic {ks : List Key} : dIsi "bool" S (.dic ks xs) = some (.bl false) := by rfl
theorem isi_int_non : dIsi "int" S .non = some (.bl false) := by rfl
theorem isi_int_bl : dIsi "int" S (.bl c) = some (.bl true) := by rfl
theorem isi_int_int : dIsi "int" S (.int i) = some (.bl true) := by rfl
theorem isi_int_str : dIsi "int" S (.str x) = some (.bl false) := by rfl
theorem isi_int_lst : dIsi "int" S (.lst xs) = some (.bl false) := by rfl
theorem isi_int_tup : dIsi "int" S (.tup xs) = some (.bl false) := by rfl
theorem isi_int_dic {ks : List Key} : dIsi "int" S (.dic ks xs) = some (.bl false) := by rfl
theorem isi_str_non : dIsi "str" S .non = some (.bl false) := by rfl
theorem isi_str_bl : dIsi "str" S (.bl c) = some (.bl false) := by rfl
theorem isi_str_int : dIsi "str" S (.int i) = some (.bl false) := by rfl
theorem isi_str_str : dIsi "str" S (.str x) = some (.bl true) := by rfl
theorem isi_str_lst : dIsi "str" S (.lst xs) = some (.bl false) := by rfl
theorem isi_str_tup : dIsi "str" S (.tup xs) = some (.bl false) := by rfl
theorem isi_str_dic {ks : List Key} : dIsi "str" S (.dic ks xs) = some (.bl false) := by rfl
theorem isi_list_non : dIsi "list" S .non = some (.bl false) := by rfl
theorem isi_list_bl : dIsi "list" S (.bl c) = some (.bl false) := by rfl
theorem isi_list_int : dIsi "list" S (.int i) = some (.bl false) := by rfl
theorem isi_list_str : dIsi "list" S (.str x) = some (.bl false) := by rfl
theorem isi_list_lst : dIsi "list" S (.lst xs) = some (.bl true) := by rfl
theorem isi_list_tup : dIsi "list" S (.tup xs) = some (.bl false) := by rfl
theorem isi_list_dic {ks : List Key} : dIsi "list" S (.dic ks xs) = some (.bl false) := by rfl
theorem isi_tuple_non : dIsi "tuple" S .non = some (.bl false) := by rfl
theorem isi_tuple_bl : dIsi "tuple" S (.bl c) = some (.bl false) := by rfl
theorem isi_tuple_int : dIsi "tuple" S (.int i) = some (.bl false) := by rfl
theorem isi_tuple_str : dIsi "tuple" S (.str x) = some (.bl false) := by rfl
theorem isi_tuple_lst : dIsi "tuple" S (.lst xs) = some (.bl false) := by rfl
theorem isi_tuple_tup : dIsi "tuple" S (.tup xs) = some (.bl true) := by rfl
theorem isi_tuple_dic {ks : List Key} : dIsi "tuple" S (.dic ks xs) = some (.bl false) := by rfl
theorem isi_dict_non : dIsi "dict" S .non = some (.bl false) := by rfl
theorem isi_dict_bl : dIsi "dict" S (.bl c) = some (.bl false) := by rfl
theorem isi_dict_int : dIsi "dict" S (.int i) = some (.bl false) := by rfl
theorem isi_dict_str : dIsi "dict" S (.str x) = some (.bl false) := by rfl
theorem isi_dict_lst : dIsi "dict" S (.lst xs) = some (.bl false) := by rfl
theorem isi_dict_tup : dIsi "dict" S (.tup xs) = some (.bl false) := by rfl
theorem isi_dict_dic {ks : List Key} : dIsi "dict" S (.dic ks xs) = some (.bl true) := by rfl
theorem bAnd_eq {p q : PB} {ds : Ax.Env} : bAnd p q ds S = (p ds S).bind fun b => if b = true then q ds S else some false := by
  unfold bAnd
  cases p ds S with
  | none => rfl
  | some b => cases b <;> rfl
theorem bOr_eq {p q : PB} {ds : Ax.Env} : bOr p q ds S = (p ds S).bind fun b => if b = true then some true else q ds S := by
  unfold bOr
  cases p ds S with
  | none => rfl
  | some b => cases b <;> rfl
theorem pIf_eq {p : PB} {f g : PX} {ds : Ax.Env} : pIf p f g ds S = (p ds S).bind fun b => if b = true then f ds S else g ds S := by
  unfold pIf
  cases p ds S with
  | none => rfl
  | some b => cases b <;> rfl
theorem vAnd_eq {f g : PX} {ds : Ax.Env} : vAnd f g ds S = (f ds S).bind fun x => (dTru S x).bind fun b => if b = true then g ds S else some x := by
  unfold vAnd
  cases f ds S with
  | none => rfl
  | some x =>
    simp only [Option.bind_some]
    cases dTru S x with
    | none => rfl
    | some b => cases b <;> rfl
theorem vOr_eq {f g : PX} {ds : Ax.Env} : vOr f g ds S = (f ds S).bind fun x => (dTru S x).bind fun b => if b = true then some x else g ds S := by
  unfold vOr
  cases f ds S with
  | none => rfl
  | some x =>
    simp only [Option.bind_some]
    cases dTru S x with
    | none => rfl
    | some b => cases b <;> rfl
theorem asB_bl : asB (.bl c) = some c := rfl
theorem seqI {T U : LTs} {L : LEnds} {ds : Ax.Env} {S : Sto} (P : Ax.Env → Sto → Prop) (h2 : ∀ ds' S', P ds' S' → U L ds' S') (h1 : ∀ Q : Ax.Env → Sto → Prop, (∀ ds' S', P ds' S' → Q ds' S') → T { L with nx := Q } ds S) : sSeq T U L ds S := h1 _ h2
theorem ifT {p : PB} {U V : LTs} {L : LEnds} {ds : Ax.Env} {S : Sto} (h : p ds S = some true) (k : U L ds S) : sIf (ofB p) U V L ds S := ⟨true, h, by show (if true = true then U L ds S else V L ds S); rw [if_pos rfl]; exact k⟩
theorem ifF {p : PB} {U V : LTs} {L : LEnds} {ds : Ax.Env} {S : Sto} (h : p ds S = some false) (k : V L ds S) : sIf (ofB p) U V L ds S := ⟨false, h, by show (if false = true then U L ds S else V L ds S); rw [if_neg Bool.false_ne_true]; exact k⟩
theorem oneI {T : LTs} {L : LEnds} {ds : Ax.Env} {S : Sto} (P : Ax.Env → Sto → Prop) (h2 : ∀ ds' S', P ds' S' → L.nx ds' S') (h1 : ∀ Q : Ax.Env → Sto → Prop, (∀ ds' S', P ds' S' → Q ds' S') → T { L with nx := Q } ds S) : T L ds S := h1 _ h2
theorem forI {G : LTg} {U : LTs} {L : LEnds} (P : Ax.Env → Sto → Prop) : ∀ {xs : List Dt} {ds : Ax.Env} {S : Sto}, P ds S → (∀ x ∈ xs, ∀ ds S, P ds S → ∀ Q : Ax.Env → Sto → Prop, (∀ ds' S', P ds' S' → Q ds' S') → G x ds S fun ds' S' => U { L with nx := Q, ct := Q, bk := L.nx } ds' S') → (∀ ds S, P ds S → L.nx ds S) → forRun G U L xs ds S
  | [], ds, S, p, _, k => k ds S p
  | x :: r, ds, S, p, h, k => h x List.mem_cons_self ds S p _ fun ds' S' p' => forI P p' (fun y hy => h y (List.mem_cons_of_mem _ hy)) k
theorem lc_all {cc : Dt → Option Bool} {t : Dt → Option Dt} : ∀ {l : List Dt}, (∀ x ∈ l, cc x = some true ∧ t x = some (.bl true)) → lcRun cc t l = some (l.map fun _ => .bl true)
  | [], _ => rfl
  | x :: l, h => by
    obtain ⟨h1, h2⟩ := h x List.mem_cons_self
    simp only [lcRun, h1, h2, lc_all fun y hy => h y (List.mem_cons_of_mem _ hy), Option.bind_some, Option.map_some, List.map_cons]
theorem asBs_all : ∀ {l : List Dt}, asBs (l.map fun _ => .bl true) = some (l.map fun _ => true)
  | [] => rfl
  | x :: l => by simp only [List.map_cons, asBs, asBs_all, Option.map_some]
theorem all_true {α : Type} : ∀ {l : List α}, (l.map fun _ => true).all id = true
  | [] => rfl
  | x :: l => by simp
abbrev Fr (S S' : Sto) (a : Addr) : Prop := ∀ b, b ≠ a → S' b = S b
theorem fr_put {S : Sto} {a : Addr} {m : MO} : Fr S (S.put a m) a := fun b h => put_ne h
abbrev LE0 (Φ : Kt) (Ψ : Xt) : LEnds := { nx := fun _ S' => Φ .non S', rt := Φ, xc := fun _ => Ψ }
end
end Ax
set_option maxRecDepth 100000
set_option maxHeartbeats 4000000
/-! Ax: the end: what the law's promise asks of the row. -/
namespace Ax
open PySem PySem.Spec PyProof.Rows L2
/-- law: true, at every script -/
def spL : LSp := fun xs _ Φ _ => ∃ ns : List Int, xs = [.scr ns] ∧ ns.length ≤ 63 ∧ ∀ S', Φ (.bl true) S'
theorem law_hsp {K : PySem.W.Frag} {H : Hp} {a : Addr} {ns : List Int} (hl : ns.length ≤ 63) (hS : SqL K H a (ns.map V.int)) : lowSp K spL [.ref a] H (fun v _ => v = .bl true) fun _ _ _ => False := by
  refine ⟨fun _ => False, [.scr ns], fun _ => none, fun d _ => d = .bl true, fun _ _ => False, Rep.empty, Dats.cons (dat_scr.mpr ⟨a, rfl, ?_⟩) Dats.nil, ⟨ns, rfl, hl, fun _ => rfl⟩, fun d S' v H' e _ _ dv => ?_, fun _ _ _ _ _ z => z.elim⟩
  · rcases hS with (h | ⟨o, h⟩) | h
    · exact .inl ⟨h, rfl, id⟩
    · exact .inr (.inl ⟨o, h, rfl, id⟩)
    · exact .inr (.inr h)
  · subst e
    exact dat_bl.mp dv
theorem law_hCX {P : Program} {w : World} {l : List PySem.Env} {H : Hp} {s : Shared} {e : Value} {s' : Shared} (h : L2.CX P w l H s (fun _ _ _ => False) e s') : False := by
  obtain ⟨_, _, _, _, _, _, _, _, _, _, _, _, z⟩ := h
  exact z
/-- an error of the class at S is what «except S» names -/
theorem exm_own {K : PySem.W.Frag} {S C : Addr} {b : Bool} (h1 : PySem.W.subIn K (.ref S) (.type "BaseException") = some true) (h2 : PySem.W.isClsIn K S = true) (h3 : PySem.W.typeIn K (.ref S) = some (.type "type")) (h4 : PySem.W.subIn K (.ref C) (.ref S) = some b) :
    PySem.W.exmOne K (.ref C) (.ref S) = some b := by
  have e1 : (PySem.W.subIn K (.ref S) (.type "BaseException") == some true) = true := by rw [h1] <;> rfl
  have e2 : ((PySem.W.clsIn K S).isSome && PySem.W.typeIn K (.ref S) == some (.type "type")) = true := by
    have h2' : (PySem.W.clsIn K S).isSome = true := h2
    rw [h2', h3] <;> rfl
  show (if (PySem.W.subIn K (.ref S) (.type "BaseException") == some true) = true then (if ((PySem.W.clsIn K S).isSome && PySem.W.typeIn K (.ref S) == some (.type "type")) = true then PySem.W.subIn K (.ref C) (.ref S) else none) else none) = some b
  rw [if_pos e1, if_pos e2]
  exact h4
end Ax
set_option maxRecDepth 100000
set_option maxHeartbeats 4000000
/-! Ax: x.f += e, x += e; comprehensions whose source has effects. -/
namespace Ax
open PySem PySem.Spec PyProof.Rows L2
section
variable {X : Cx} {W : WX} {e a b c o tg iter elt : Expr} {ifs : List Expr} {pos pos' tpos : Pos} {f g : PX} {Te : LTe}
structure InF (X : Cx) (op : Operator) (z : Sto → Dt → Dt → Option Dt) : Prop where
  ex : ∃ r, InOp X op r ∧ OpS X.K r z
abbrev dAddI := dI fun i j => .int (i + j)
theorem if_add : InF X .Add dAddI := ⟨_, in_add, dI_ok hI⟩
theorem if_sub : InF X .Sub dSub := ⟨_, in_sub, dI_ok hI⟩
def sFldU (k : Kls) (i : Nat) (f : PX) (z : Sto → Dt → Dt → Option Dt) (Te : LTe) : LTs := fun L ds S => ∃ a fs old, f ds S = some (.adr a) ∧ S a = some (.ins k fs) ∧ fs[i]? = some old ∧
  Te ds S (fun y S1 => ∃ fs1 w, z S1 old y = some w ∧ S1 a = some (.ins k fs1) ∧ i ≤ fs1.length ∧ L.nx ds (S1.put a (.ins k (setF fs1 i w)))) (L.xc ds)
theorem ls_fldaug {op : Operator} {z : Sto → Dt → Dt → Option Dt} {k : Kls} {i : Nat} {x : Str} (h : InF X op z) (hk : KOk X.K k) (ho : LP X o f) (he : LE X W e Te) (hi : k.names[i]? = some x := by rfl) : LS X W (.AugAssign (.Attribute o x tpos) op e pos) (sFldU k i f z Te) := by
  obtain ⟨r, h1, h2⟩ := h.ex
  refine ps_weak (ps_fldaug ho he h1) fun D σ H ⟨F, ds, S, L, R, sl, ⟨a, fs, old, e1, e2, e3, q⟩, eo⟩ => ⟨F, ds, S, _, R, sl, e1, fun v H1 R1 k1 d1 => ?_⟩
  obtain ⟨dx, vs, h3, h4, h5⟩ := R1.mo e2
  obtain ⟨w, h6, h7⟩ := h5.get e3
  refine ⟨a, k.addr, dx, _, w, dat_adr.mp d1, h3, hk.cl, hk.na x (List.mem_of_getElem? hi), zip_look hk.nd hi h6, ?_⟩
  refine low_run R1 (sl.keep k1) q (fun y S1 u H2 ⟨fs1, w2, q1, q2, q3, q4⟩ R2 k2 d2 => ?_) ((eo.keep k1).x (sl.keep k1))
  refine h2 F S1 H2 old y w u w2 _ R2 (Dat.keep k2 _ h7) d2 q1 fun v3 H3 R3 k3 d3 => ?_
  obtain ⟨dx3, gs, a1, a2, a3, a4⟩ := fld_set hk hi R3 q2 q3 d3
  exact ⟨dx3, gs, a1, a2, eo.nx _ _ σ _ q4 a3 (((k1.trans k2).trans k3).trans a4) (sl.keep (((k1.trans k2).trans k3).trans a4))⟩
def sNmU (i : Nat) (z : Sto → Dt → Dt → Option Dt) (Te : LTe) : LTs := fun L ds S => ∃ old, ds[i]? = some (some old) ∧ Te ds S (fun y S1 => ∃ w, z S1 old y = some w ∧ L.nx (ds.set i (some w)) S1) (L.xc ds)
theorem ls_aug {op : Operator} {z : Sto → Dt → Dt → Option Dt} {i : Nat} {x : Str} (h : InF X op z) (nd : X.N.Nodup) (he : LE X W e Te) (hi : X.N[i]? = some x := by rfl) (hx : Loc X.env.scope x := by first | exact Or.inl rfl | exact Or.inr rfl)
    (hf : X.fn x = true ∨ X.env.scope.names.lookup x = some .local := by first | exact .inl rfl | exact .inr rfl | assumption) : LS X W (.AugAssign (.Name x tpos) op e pos) (sNmU i z Te) := by
  obtain ⟨r, h1, h2⟩ := h.ex
  refine ps_weak (ps_aug (ti := r) nd hi hx he h1 hf) fun D σ H ⟨F, ds, S, L, R, sl, ⟨old, e1, q⟩, eo⟩ => ?_
  obtain ⟨v, h3, h4⟩ := sl.2 i old e1
  refine ⟨v, h3, low_run R sl q (fun y S1 u H2 ⟨w2, q1, q2⟩ R2 k2 d2 => ?_) (eo.x sl)⟩
  exact h2 F S1 H2 old y v u w2 _ R2 (Dat.keep k2 _ h4) d2 q1 fun v3 H3 R3 k3 d3 => eo.nx _ _ _ _ q2 R3 (k2.trans k3) ((sl.keep (k2.trans k3)).set d3)
def tLcE (TA : LTa) (vs : List Nat) (G : Dt → Ax.Env → Option Ax.Env) (c : PB) (t : PX) : LTe := fun ds S Φ Ψ => TA ds S (fun xs S1 => xs.length < 1000000 ∧ ∃ ys, lcRun (fun x => (G x (wipeD ds vs)).bind fun e => c e S1) (fun x => (G x (wipeD ds vs)).bind fun e => t e S1) xs = some ys ∧ Φ (.lst ys) S1) Ψ
theorem lc_low {own : List Nat} {g : TG} {G : Dt → Ax.Env → Option Ax.Env} {TA : LTa} {cc : PB} {t : PX} (hG : TgOk X.K g own G) : ∀ σ H Q, low X.K W (tLcE TA own G cc t) σ H Q → tLc (lowI X.K W TA) g (lowPB X.K cc) (lowP X.K t) own σ H Q :=
  fun σ H Q ⟨F, ds, S, Φ, Ψ, R, sl, q0, k0, xx⟩ => by
        refine ⟨F, ds, S, _, Ψ, R, sl, q0, fun zs S' J H1 e0 R1 k1 it => ?_, xx⟩
        obtain ⟨hlen, ys, hy, q1⟩ := e0
        have k := fun (v : V) (H' : Hp) (R' : Rep X.K F S' H') (k' : Keep F S H S' H') (dv : Dat X.K F S' H' (.lst ys) v) => k0 _ _ v H' q1 R' k' dv
        intro D hD
        obtain ⟨vs, dvs, go⟩ := it
        have hvl := dvs.length
        have nD : ∀ {a : Addr} {o : HO}, H1 a = some o → a ≠ D := fun h => ne_of_none h hD
        refine ⟨fun i m H2 => m = vs.length - i ∧ i ≤ vs.length ∧ ∃ acc rst ws, Rep X.K (fun a => F a ∨ a = D) S' H2 ∧ Keep F S' H1 S' H2 ∧ H2 D = some (.lst ws) ∧ Dats X.K (fun a => F a ∨ a = D) S' H2 acc ws ∧
          lcRun (fun x => (G x (wipeD ds own)).bind fun e => cc e S') (fun x => (G x (wipeD ds own)).bind fun e => t e S') (zs.drop i) = some rst ∧ ys = acc ++ rst ∧ acc.length ≤ i,
          ⟨vs.length, by simp, Nat.zero_le _, [], ys, [], ?_, R1.kn hD, upd_same, Dats.nil, hy, rfl, Nat.le_refl _⟩, ?_⟩
        · refine ⟨fun a m e => ?_, fun a ha => ?_⟩
          · obtain ⟨o, ho⟩ := (R1.mo e).here
            exact ⟨fun z => z.elim (R1.1 a m e).1 (nD ho), (R1.mo e).move (fun b u h1 h2 h3 => ⟨by rw [upd_ne (nD h1)]; exact h1, h2, fun z => z.elim h3 (nD h1)⟩) (upd_ne (nD ho))⟩
          · rcases ha with ha | ha
            · obtain ⟨o, ho⟩ := R1.2 a ha
              exact ⟨o, by rw [upd_ne (nD ho)]; exact ho⟩
            · rw [ha]
              exact ⟨_, upd_same⟩
        · rintro i m H2 ⟨rfl, hi2, acc, rst, ws, R2, k2, hDw, dacc, hrun, hys, hal⟩
          have mvD : Mv F S' H1 (fun a => F a ∨ a = D) S' H2 := fun b u h1 h2 h3 => ⟨(k2.1 b u h1 h2 h3).1, h2, fun z => z.elim h3 (nD h1)⟩
          by_cases hlt : i < vs.length
          · refine .inr ⟨((go S' H2 k2).1 i hlt).1, fun H' => ∃ acc rst ws, Rep X.K (fun a => F a ∨ a = D) S' H' ∧ Keep F S' H1 S' H' ∧ H' D = some (.lst ws) ∧ Dats X.K (fun a => F a ∨ a = D) S' H' acc ws ∧
              lcRun (fun x => (G x (wipeD ds own)).bind fun e => cc e S') (fun x => (G x (wipeD ds own)).bind fun e => t e S') (zs.drop (i + 1)) = some rst ∧ ys = acc ++ rst ∧ acc.length ≤ i + 1,
              fun H' ⟨a1, a2, a3, b1, b2, b3, b4, b5, b6, b7⟩ => ⟨vs.length - (i + 1), by omega, rfl, hlt, a1, a2, a3, b1, b2, b3, b4, b5, b6, b7⟩, fun x H' y => ?_⟩
            obtain ⟨e1, e2⟩ := ((go S' H2 k2).1 i hlt).2 x H' y
            subst e1
            obtain ⟨dd, e3, e4⟩ := dvs.of_get e2
            have e5 : zs.drop i = dd :: zs.drop (i + 1) := by
              obtain ⟨h1, h2⟩ := List.getElem?_eq_some_iff.mp e3
              rw [List.drop_eq_getElem_cons h1, h2]
            rw [e5] at hrun
            have e4' := Dat.move mvD _ e4
            have sl2 : Sl X.K (fun a => F a ∨ a = D) S' H' σ ds := ⟨sl.1, fun j u hu => by
              obtain ⟨v, h1, h2⟩ := sl.2 j u hu
              exact ⟨v, h1, Dat.move mvD _ (Dat.keep k1 _ h2)⟩⟩
            unfold lcRun at hrun
            cases hG2 : G dd (wipeD ds own) with
            | none =>
              rw [hG2] at hrun
              cases hrun
            | some de =>
              rw [hG2] at hrun
              simp only [Option.bind_some] at hrun
              refine hG _ S' H' dd x σ _ de _ R2 (sl2.wipe _) e4' hG2 fun σ' sl3 hw => ⟨hw, ?_⟩
              split at hrun
              · rename_i hc1
                refine ⟨_, de, S', true, R2, sl3, hc1, fun H3 R3 k3 => ?_⟩
                cases ht1 : t de S' with
                | none =>
                  rw [ht1] at hrun
                  cases hrun
                | some y =>
                  rw [ht1, Option.bind_some] at hrun
                  cases hr2 : lcRun (fun x => (G x (wipeD ds own)).bind fun e => cc e S') (fun x => (G x (wipeD ds own)).bind fun e => t e S') (zs.drop (i + 1)) with
                  | none =>
                    rw [hr2] at hrun
                    cases hrun
                  | some rst2 =>
                    rw [hr2] at hrun
                    cases hrun
                    refine iteT ⟨_, de, S', y, R3, sl3.keep k3, ht1, fun vy H4 R4 k4 dy => ⟨ws, (k4.2 D (.inr rfl)).trans ((k3.2 D (.inr rfl)).trans hDw), ?_, acc ++ [y], rst2, ws ++ [vy], ?_, ?_, upd_same, ?_, rfl, ?_, ?_⟩⟩
                    · have := dacc.length
                      rw [sizeLine_eq]
                      omega
                    · refine ⟨fun a m e => ?_, fun a ha => ?_⟩
                      · have nf := (R4.1 a m e).1
                        have na : a ≠ D := fun z => nf (.inr z)
                        exact ⟨nf, (R4.mo e).move (fun b u h1 h2 h3 => ⟨by rw [upd_ne (fun z => h3 (.inr z))]; exact h1, h2, h3⟩) (upd_ne na)⟩
                      · rcases ha with ha | ha
                        · obtain ⟨o, ho⟩ := R4.2 a (.inl ha)
                          by_cases na : a = D
                          · rw [na]
                            exact ⟨_, upd_same⟩
                          · exact ⟨o, by rw [upd_ne na]; exact ho⟩
                        · rw [ha]
                          exact ⟨_, upd_same⟩
                    · refine ⟨fun a o h1 h2 h3 => ?_, fun a ha => ?_⟩
                      · have z := mvD a o h1 h2 h3
                        have z2 := k3.1 a o z.1 z.2.1 z.2.2
                        have z3 := k4.1 a o z2.1 z2.2 z.2.2
                        exact ⟨by rw [upd_ne (nD h1)]; exact z3.1, z3.2⟩
                      · have na : a ≠ D := by
                          obtain ⟨o, ho⟩ := R1.2 a ha
                          exact nD ho
                        rw [upd_ne na]
                        exact (k4.2 a (.inl ha)).trans ((k3.2 a (.inl ha)).trans (k2.2 a ha))
                    · exact Dats.move (fun b u h1 h2 h3 => ⟨by rw [upd_ne (fun z => h3 (.inr z))]; exact h1, h2, h3⟩) _ (Dats.append (Dats.keep (k3.trans k4) _ dacc) (Dats.cons dy Dats.nil))
                    · rw [hys, List.append_assoc, List.singleton_append]
                    · rw [List.length_append, List.length_singleton]
                      omega
              · rename_i hc1
                refine ⟨_, de, S', false, R2, sl3, hc1, fun H3 R3 k3 => ?_⟩
                refine iteF ⟨acc, rst, ws, R3, ⟨fun a o h1 h2 h3 => ?_, fun a ha => ?_⟩, (k3.2 D (.inr rfl)).trans hDw, Dats.keep k3 _ dacc, hrun, hys, Nat.le_succ_of_le hal⟩
                · have z := mvD a o h1 h2 h3
                  exact k3.1 a o z.1 z.2.1 z.2.2
                · exact (k3.2 a (.inl ha)).trans (k2.2 a ha)
              · cases hrun
          · have e : i = vs.length := by omega
            subst e
            rw [hvl, List.drop_length] at hrun
            cases hrun
            rw [List.append_nil] at hys
            subst hys
            refine .inl ⟨(go S' H2 k2).2 _ (Nat.le_refl _), k _ H2 ⟨fun a m e => ?_, fun a ha => R2.2 a (.inl ha)⟩ (k1.trans k2) ?_⟩
            · exact ⟨fun z => (R2.1 a m e).1 (.inl z), (R2.mo e).move (fun b u h1 h2 h3 => ⟨h1, h2, fun z => h3 (.inl z)⟩) rfl⟩
            · exact dat_lst.mpr ⟨D, ws, rfl, ⟨hDw, R1.free hD, R1.nf hD⟩, Dats.move (fun b u h1 h2 h3 => ⟨h1, h2, fun z => h3 (.inl z)⟩) _ dacc⟩
theorem le_lc {scope : Scope} {own : List (Str × Nat)} {g : TG} {G : Dt → Env → Option Env} {TA : LTa} {cc : PB} {t : PX} (hc : X.calm = true) (hN : X.N.Nodup) (hi : LI X W tg iter TA) (hG : TgOk X.K g (own.map (·.2)) G)
    (hg : ∀ (s : Shared) (H : Hp) (C : Addr) (cl : List (Str × Addr)) (fp : List Addr), PG (X.blk s H scope (compEnvC scope cl C X.env) fp) tg g)
    (ht : ∀ (s : Shared) (H : Hp) (C : Addr) (cl : List (Str × Addr)) (fp : List Addr), LPTs (X.blk s H scope (compEnvC scope cl C X.env) fp) ifs cc)
    (he : ∀ (s : Shared) (H : Hp) (C : Addr) (cl : List (Str × Addr)) (fp : List Addr), LP (X.blk s H scope (compEnvC scope cl C X.env) fp) elt t)
    (ok : BlkOk X.N X.env.scope scope own) (hs : ∀ x, foldedSetIterable iter X.env x = pure x := by intro _; rfl) : LE X W (.ListComp elt [⟨tg, iter, ifs, 0⟩] scope pos) (tLcE TA (own.map (·.2)) G cc t) :=
  pe_weak (pe_lc (tt := lowPB X.K cc) (te := lowP X.K t) hc hN hi ok hg ht he hs) (lc_low hG)
theorem ls_setLc {spos py : Pos} {y : Str} {i : Nat} {scope : Scope} {own : List (Str × Nat)} {g : TG} {G : Dt → Env → Option Env} {TA : LTa} {cc : PB} {t : PX} (hc : X.calm = true) (hN : X.N.Nodup) (hi : LI X W tg iter TA) (hG : TgOk X.K g (own.map (·.2)) G)
    (hg : ∀ (s : Shared) (H : Hp) (C : Addr) (cl : List (Str × Addr)) (fp : List Addr), PG (X.blk s H scope (compEnvC scope cl C X.env) fp) tg g)
    (ht : ∀ (s : Shared) (H : Hp) (C : Addr) (cl : List (Str × Addr)) (fp : List Addr), LPTs (X.blk s H scope (compEnvC scope cl C X.env) fp) ifs cc)
    (he : ∀ (s : Shared) (H : Hp) (C : Addr) (cl : List (Str × Addr)) (fp : List Addr), LP (X.blk s H scope (compEnvC scope cl C X.env) fp) elt t)
    (ok : BlkOk X.N X.env.scope scope own) (hs : ∀ x, foldedSetIterable iter X.env x = pure x := by intro _; rfl) (hy : X.N[i]? = some y := by rfl) (hyl : X.env.scope.names.lookup y = some .local := by rfl) (hsw : swapsWith (.ListComp elt [⟨tg, iter, ifs, 0⟩] scope pos) (some (.Name y py)) spos.line X.env = pure true := by exact sw_true rfl rfl rfl rfl) :
    LS X W (.Assign [.Name y py] (.ListComp elt [⟨tg, iter, ifs, 0⟩] scope pos) spos) (sAsg (tLcE TA (own.map (·.2)) G cc t) (gNm i)) :=
  ps_weak (ps_setLc (tt := lowPB X.K cc) (te := lowP X.K t) hc hN hy hyl hsw hi ok hg ht he hs) fun D σ H ⟨F, ds, S, L, R, sl, h, eo⟩ => lc_low hG _ _ _ (low_run R sl h (fun d S' v H' q R' k' dv => eo.nx _ S' _ H' q R' k' ((sl.keep k').set dv)) (eo.x sl))

end
end Ax
set_option maxRecDepth 100000
set_option maxHeartbeats 4000000
/-! Ax: more equations: slices, chains, lists added, bits. -/
namespace Ax
open PySem PySem.Spec PyProof.Rows L2
section
variable {S : Sto} {a b : Addr} {xs ys : List Dt} {i j : Int} {x y : Str} {c d : Bool}
theorem cutD_mid (hi : 0 ≤ i) (hj : 0 ≤ j) : cutD xs (some i) (some j) = (xs.drop i.toNat).take (j.toNat - i.toNat) := by
  have e1 : HT.sIx xs.length 0 (some i) = min i.toNat xs.length := by
    have := HT.sIx_nat xs.length 0 i.toNat
    rwa [Int.toNat_of_nonneg hi] at this
  have e2 : HT.sIx xs.length xs.length (some j) = min j.toNat xs.length := by
    have := HT.sIx_nat xs.length xs.length j.toNat
    rwa [Int.toNat_of_nonneg hj] at this
  unfold cutD
  rw [e1, e2]
  by_cases h : i.toNat ≤ xs.length
  · rw [Nat.min_eq_left h]
    by_cases h2 : j.toNat ≤ xs.length
    · rw [Nat.min_eq_left h2]
    · rw [Nat.min_eq_right (by omega), List.take_of_length_le (by rw [List.length_drop]; omega), List.take_of_length_le (by rw [List.length_drop]; omega)]
  · have e : min i.toNat xs.length = xs.length := Nat.min_eq_right (by omega)
    rw [e, List.drop_length, List.drop_eq_nil_of_le (show xs.length ≤ i.toNat by omega)]
    simp
theorem cutD_to (hj : 0 ≤ j) : cutD xs none (some j) = xs.take j.toNat := by
  have e2 : HT.sIx xs.length xs.length (some j) = min j.toNat xs.length := by
    have := HT.sIx_nat xs.length xs.length j.toNat
    rwa [Int.toNat_of_nonneg hj] at this
  unfold cutD
  rw [e2, HT.sIx_none, List.drop_zero, Nat.sub_zero]
  by_cases h2 : j.toNat ≤ xs.length
  · rw [Nat.min_eq_left h2]
  · rw [Nat.min_eq_right (by omega), List.take_of_length_le (by omega), List.take_of_length_le (by omega)]
theorem cutD_from (hi : 0 ≤ i) : cutD xs (some i) none = xs.drop i.toNat := by
  have e1 : HT.sIx xs.length 0 (some i) = min i.toNat xs.length := by
    have := HT.sIx_nat xs.length 0 i.toNat
    rwa [Int.toNat_of_nonneg hi] at this
  unfold cutD
  rw [e1, HT.sIx_none]
  by_cases h : i.toNat ≤ xs.length
  · rw [Nat.min_eq_left h, List.take_of_length_le (by rw [List.length_drop]; omega)]
  · have e : min i.toNat xs.length = xs.length := Nat.min_eq_right (by omega)
    rw [e, List.drop_length, List.drop_eq_nil_of_le (show xs.length ≤ i.toNat by omega)]
    simp
theorem pCh_eq {o o' : Sto → Dt → Dt → Option Dt} {f g h : PX} {ds : Ax.Env} : pCh o o' f g h ds S = (f ds S).bind fun x => (g ds S).bind fun y => (o S x y).bind fun b => (asB b).bind fun c => if c = true then (h ds S).bind fun z => o' S y z else some (.bl false) := by
  unfold pCh
  cases f ds S with
  | none => rfl
  | some x =>
    simp only [Option.bind_some]
    cases g ds S with
    | none => rfl
    | some y =>
      simp only [Option.bind_some]
      cases o S x y with
      | none => rfl
      | some r =>
        cases r with
        | bl q => cases q <;> rfl
        | _ => rfl
theorem dAdd_lst (h : xs.length + ys.length ≤ 1000000) : dAdd S (.lst xs) (.lst ys) = some (.lst (xs ++ ys)) := by
  have : xs.length + ys.length ≤ sizeLine := Nat.le_trans h (by rw [sizeLine_eq]; decide)
  simp [dAdd, dLst, this]
theorem band15 : Builtin.bitAnd i 15 = i % 16 := PyProof.Rows.bitAnd_m4 i
theorem band255 : Builtin.bitAnd i 255 = i % 256 := PyProof.Rows.bitAnd_m8 i
theorem oInt_int {S : Sto} : oInt S [.int i] = some (.int i) := rfl
end
end Ax
set_option maxRecDepth 100000
set_option maxHeartbeats 4000000
namespace K47
open PySem PySem.Spec PyProof.Rows L2 Ax
def top (i : Nat) : Stmt := PySem.Challenge.pw_axlewire_k47_whole_senders_of_parts.main.body.getD i (.Pass ⟨0, 0, 0, 0⟩)
structure Ad where
  CarError : Addr
  DeedWrong : Addr
  Wrong : Addr
  Clock : Addr
  Sender : Addr
  f_is_number : Addr
  f_is_octets : Addr
  f_single : Addr
  f_first : Addr
  f_next_part : Addr
  f_told_by : Addr
  f_gap_of : Addr
  f_Clock_init : Addr
  f_Clock_pass_to : Addr
  f_Sender_init : Addr
  f_Sender_due : Addr
  f_Sender_end : Addr
  f_Sender_begin : Addr
  f_Sender_go_on : Addr
  f_Sender_send_next : Addr
  f_Sender_get : Addr
  f__law_draws : Addr
  f__law_draw : Addr
  f__law_same : Addr
  f__law_new_sender : Addr
  f__law_sender_next : Addr
  f__law_sender_on : Addr
  f__law_sender_begins : Addr
  f__law_sender_gets : Addr
  f__law_called : Addr
  f__law_made : Addr
  f__law_flow : Addr
  f_law : Addr
abbrev Ad.k_Clock (A : Ad) : Kls := ⟨A.Clock, ["now"]⟩
abbrev Ad.k_Sender (A : Ad) : Kls := ⟨A.Sender, ["data", "waits", "state", "clock", "at", "number", "left", "gap", "bell"]⟩
def Ad.xs_DeedWrong (A : Ad) : List Addr := [A.DeedWrong]
def Ad.M_DeedWrong (A : Ad) : Addr → Option Bool := fun C => if C = A.DeedWrong then some true else none
def Ad.xs_Wrong (A : Ad) : List Addr := [A.Wrong]
def Ad.M_Wrong (A : Ad) : Addr → Option Bool := fun C => if C = A.Wrong then some true else none
/-! what every law has -/
def DrAt (S : Sto) (a : Addr) : Prop := ∃ (cells : List Int) (i j s : Int), S a = some (.lst [.lst (cells.map Dt.int), .int i, .int j, .int s]) ∧ 0 ≤ i ∧ 0 ≤ j ∧ cells.length ≤ 63
def sp__law_draws (_ : Ad) : LSp := fun xs S Φ _ => ∃ ns : List Int, xs = [.scr ns] ∧ ns.length ≤ 63 ∧ ∀ p S', S p = none → DrAt S' p → Fr S S' p → Φ (.adr p) S'
def sp__law_draw (_ : Ad) : LSp := fun xs S Φ _ => ∃ a n, xs = [.adr a, .int n] ∧ DrAt S a ∧ 0 < n ∧ n < 1073741824 ∧ ∀ v S', 0 ≤ v → v < n → DrAt S' a → Fr S S' a → Φ (.int v) S'
mutual
def sm (S : Sto) : Nat → Dt → Dt → Bool
  | 0, _, _ => false
  | _ + 1, .non, .non => true
  | _ + 1, .bl b, .bl c => b == c
  | _ + 1, .int i, .int j => i == j
  | _ + 1, .str x, .str y => x == y && decide (y.length ≤ 1000)
  | n + 1, .tup xs, .tup ys => decide (xs.length ≤ 1000) && sms S n xs ys
  | n + 1, .lst xs, .lst ys => decide (xs.length ≤ 1000) && sms S n xs ys
  | _ + 1, _, _ => false
def sms (S : Sto) : Nat → List Dt → List Dt → Bool
  | _, [], [] => true
  | n, x :: xs, y :: ys => sm S n x y && sms S n xs ys
  | _, _, _ => false
end
def g__law_same (n : Nat) (xs : List Dt) (S : Sto) : Option Dt := match xs with
  | [x, y] => if sm S n x y = true then some (.bl true) else none
  | _ => none
def sp_law (_ : Ad) : LSp := spL
structure M where
  data : List Int
  waits : Int
  state : Str
  pos : Nat
  number : Int
  left : Option Int
  gap : Int
  bell : Option Int
  now : Int
def il (xs : List Int) : Dt := .lst (xs.map Dt.int)
def oD : Option Int → Dt
  | none => .non
  | some i => .int i
def rowD (r : Int × List Int) : Dt := .tup [.int r.1, il r.2]
def rowsD (rs : List (Int × List Int)) : Dt := .lst (rs.map rowD)
abbrev OK : List Key := dKeys ["data", "waits", "state", "at", "number", "left", "gap", "bell", "now"]
structure WF (m : M) : Prop where
  len : m.data.length ≤ 300
  sw : m.bell = none → m.state ≠ "waiting" ∧ m.state ≠ "sending"
def SAt (A : Ad) (S : Sto) (a c : Addr) (m : M) : Prop := (∃ p : Nat, S a = some (.ins A.k_Sender [il m.data, .int m.waits, .str m.state, .adr c, .int p, .int m.number, oD m.left, .int m.gap, oD m.bell]) ∧ (m.bell = none ∨ p = m.pos)) ∧ S c = some (.ins A.k_Clock [.int m.now]) ∧ c ≠ a ∧ WF m
def OAt (S : Sto) (o : Addr) (m : M) : Prop := S o = some (.dic OK [il m.data, .int m.waits, .str m.state, .int m.pos, .int m.number, oD m.left, .int m.gap, oD m.bell, .int m.now]) ∧ WF m
abbrev Fr2 (S S' : Sto) (a c : Addr) : Prop := ∀ b, b ≠ a → b ≠ c → S' b = S b
def stop (m : M) (st : Str) : M := { m with state := st, bell := none }
def sendM (m : M) (t : Int) : M × List (Int × List Int) :=
  let m1 := { m with number := (m.number + 1) % 16, pos := m.pos + 7, left := m.left.map (· - 1) }
  (if m1.pos ≥ m.data.length then stop m1 "done" else if m1.left = some 0 then { m1 with state := "waiting", bell := some (t + 1000) } else { m1 with bell := some (t + m.gap) },
   [(t, (32 + (m.number + 1) % 16) :: (m.data.drop m.pos).take 7)])
def onM : Nat → Int → M → List (Int × List Int) → Option (M × List (Int × List Int))
  | 0, _, _, _ => none
  | k + 1, t, m, f => match m.bell with
    | none => some (m, f)
    | some b => if b ≤ t then (if m.state = "waiting" then onM k t (stop m "late") f else onM k t (sendM m b).1 (f ++ (sendM m b).2)) else some (m, f)
def goM (m : M) (t : Int) : Option (M × List (Int × List Int)) := onM 400 t { m with now := t } []
def startM (m : M) (t : Int) : M × List (Int × List Int) :=
  let n : Int := m.data.length
  if m.data.length < 8 then (stop { m with now := t } "done", [(t, n :: m.data)])
  else ({ m with now := t, state := "waiting", pos := 6, bell := some (t + 1000) }, [(t, (16 + n / 256) :: n % 256 :: m.data.take 6)])
/-- a flow: word, block, gap -/
def flow : List Int → Option (Int × Int × Int)
  | w :: a :: b :: r => if w / 16 = 3 ∧ r.length ≤ 5 then some (w % 16, a, b) else none
  | _ => none
def clip (i : Int) : Int := if 127 < i then 127 else i
def hearM (m : M) (t : Int) (f : List (Int × List Int)) (oct : List Int) : Option (M × List (Int × List Int)) :=
  if m.state ≠ "waiting" then some (m, f) else match flow oct with
    | none => some (m, f)
    | some (w, a, b) => if w = 1 then some (if m.waits - 1 < 0 then stop { m with waits := m.waits - 1 } "tired" else { m with waits := m.waits - 1, bell := some (t + 1000) }, f)
      else if w ≠ 0 then some (stop m (if w = 2 then "refused" else "wrong"), f)
      else (goM { m with state := "sending", left := if a > 0 then some a else none, gap := clip b, bell := some t } t).map fun r => (r.1, f ++ r.2)
def getM (m : M) (t : Int) (oct : List Int) : Option (M × List (Int × List Int)) := (goM m t).bind fun r => hearM r.1 t r.2 oct
def xE (A : Ad) (C : Addr) (nm : Str) (d : Dt) : Exc := ⟨C, ["name", "at"], [.str nm, d]⟩
/-! octets -/
def intsOf : List Dt → Option (List Int)
  | [] => some []
  | .int i :: r => (intsOf r).map (i :: ·)
  | _ => none
def octs (xs : List Int) : Bool := xs.all fun i => decide (0 ≤ i ∧ i ≤ 255)
def g_is_number (xs : List Dt) (_ : Sto) : Option Dt := match xs with
  | [.int t, .int lo, .int hi] => some (.bl (decide (lo ≤ t ∧ t ≤ hi)))
  | _ => none
def g_is_octets (xs : List Dt) (_ : Sto) : Option Dt := match xs with
  | [.lst ds, .int most] => (intsOf ds).bind fun is => if octs is = true ∧ (is.length : Int) ≤ most ∧ is.length ≤ 1000 then some (.bl true) else none
  | _ => none
def g_single (xs : List Dt) (_ : Sto) : Option Dt := match xs with
  | [.lst ds] => if ds.length ≤ 1000 then some (.lst (.int ds.length :: ds)) else none
  | _ => none
def g_first (xs : List Dt) (_ : Sto) : Option Dt := match xs with
  | [.lst ds] => if ds.length ≤ 1000 then some (.lst (.int (16 + (ds.length : Int) / 256) :: .int ((ds.length : Int) % 256) :: ds.take 6)) else none
  | _ => none
def g_next_part (xs : List Dt) (_ : Sto) : Option Dt := match xs with
  | [.int n, .lst ds] => if ds.length ≤ 1000 then some (.lst (.int (32 + n % 16) :: ds)) else none
  | _ => none
def g_gap_of (xs : List Dt) (_ : Sto) : Option Dt := match xs with
  | [.int i] => some (.int (clip i))
  | _ => none
def toldM : List Int → Option Dt
  | [] => some .non
  | w :: r => if w / 16 = 3 then some (match r with
      | a :: b :: _ => .tup [.str "flow", .int (w % 16), .int a, .int b]
      | _ => .non)
    else if w / 16 = 2 ∧ r ≠ [] then some (.tup [.str "next", .int (w % 16), il r])
    else if w = 2 ∧ r.length = 2 then some (.tup [.str "single", il r]) else none
def g_told_by (xs : List Dt) (_ : Sto) : Option Dt := match xs with
  | [.lst ds] => (intsOf ds).bind fun is => if octs is = true ∧ is.length ≤ 8 then toldM is else none
  | _ => none
/-! what each def does -/
def sp_Clock_init (A : Ad) : LSp := fun xs S Φ _ => ∃ a, xs = [.adr a] ∧ S a = some (.ins A.k_Clock []) ∧ Φ .non (S.put a (.ins A.k_Clock [.int 0]))
def sp_Clock_pass_to (A : Ad) : LSp := fun xs S Φ Ψ => ∃ a t n, xs = [.adr a, .int n] ∧ S a = some (.ins A.k_Clock [.int t]) ∧ (n < t → Ψ (xE A A.DeedWrong "DeedWrong" (.int n)) S) ∧ (¬ n < t → Φ .non (S.put a (.ins A.k_Clock [.int n])))
def sp_Sender_init (A : Ad) : LSp := fun xs S Φ Ψ => ∃ a d ds w, xs = [.adr a, d, .int w] ∧ S a = some (.ins A.k_Sender []) ∧ dLst S d = some ds ∧ ds.length ≤ 5000 ∧
  (¬ (1 ≤ ds.length ∧ ds.length ≤ 4095) → Ψ (xE A A.Wrong "Wrong" (.int ds.length)) S) ∧
  ((1 ≤ ds.length ∧ ds.length ≤ 4095) → ∀ c S', S c = none → S' a = some (.ins A.k_Sender [.lst ds, .int w, .str "new", .adr c, .int 0, .int 0, .non, .int 0, .non]) → S' c = some (.ins A.k_Clock [.int 0]) → c ≠ a → Fr2 S S' a c → Φ .non S')
def sp_Sender_due (A : Ad) : LSp := fun xs S Φ _ => ∃ a c m, xs = [.adr a] ∧ SAt A S a c m ∧ Φ (oD m.bell) S
def sp_Sender_end (A : Ad) : LSp := fun xs S Φ _ => ∃ a st d0 d1 d2 d3 d4 d5 d6 d7 d8, xs = [.adr a, .str st] ∧ S a = some (.ins A.k_Sender [d0, d1, d2, d3, d4, d5, d6, d7, d8]) ∧ Φ .non (S.put a (.ins A.k_Sender [d0, d1, .str st, d3, d4, d5, d6, d7, .non]))
def sp_Sender_begin (A : Ad) : LSp := fun xs S Φ Ψ => ∃ a c m n, xs = [.adr a, .int n] ∧ SAt A S a c m ∧ (n < m.now → Ψ (xE A A.DeedWrong "DeedWrong" (.int n)) S) ∧
  (¬ n < m.now → m.state ≠ "new" → ∀ S', SAt A S' a c { m with now := n } → Fr2 S S' a c → Ψ (xE A A.DeedWrong "DeedWrong" (.str "begin")) S') ∧
  (¬ n < m.now → m.state = "new" → ∀ S', SAt A S' a c (startM m n).1 → Fr2 S S' a c → Φ (rowsD (startM m n).2) S')
def sp_Sender_send_next (A : Ad) : LSp := fun xs S Φ _ => ∃ a c m n, xs = [.adr a, .int n] ∧ SAt A S a c m ∧ m.bell ≠ none ∧ m.state = "sending" ∧ ∀ S', SAt A S' a c (sendM m n).1 → Fr2 S S' a c → Φ (rowsD (sendM m n).2) S'
def sp_Sender_go_on (A : Ad) : LSp := fun xs S Φ Ψ => ∃ a c m n, xs = [.adr a, .int n] ∧ SAt A S a c m ∧ (m.bell = none ∨ m.state = "waiting" ∨ m.state = "sending") ∧ (n < m.now → Ψ (xE A A.DeedWrong "DeedWrong" (.int n)) S) ∧
  (¬ n < m.now → ∃ r, goM m n = some r ∧ ∀ S', SAt A S' a c r.1 → Fr2 S S' a c → Φ (rowsD r.2) S')
def sp_Sender_get (A : Ad) : LSp := fun xs S Φ Ψ => ∃ a c m oct n, xs = [.adr a, il oct, .int n] ∧ SAt A S a c m ∧ (m.bell = none ∨ m.state = "waiting" ∨ m.state = "sending") ∧ (n < m.now → Ψ (xE A A.DeedWrong "DeedWrong" (.int n)) S) ∧ octs oct = true ∧ oct.length ≤ 8 ∧ (∃ d, toldM oct = some d) ∧
  (¬ n < m.now → ∃ r, getM m n oct = some r ∧ ∀ S', SAt A S' a c r.1 → Fr2 S S' a c → Φ (rowsD r.2) S')
def newM (data : List Int) (w : Int) : M := ⟨data, w, "new", 6, 0, none, 0, none, 0⟩
def sp__law_new_sender (_ : Ad) : LSp := fun xs S Φ _ => ∃ data w, xs = [il data, .int w] ∧ data.length ≤ 300 ∧ ∀ p S', S p = none → OAt S' p (newM data w) → Fr S S' p → Φ (.adr p) S'
def sp__law_sender_next (_ : Ad) : LSp := fun xs S Φ _ => ∃ o m n, xs = [.adr o, .int n] ∧ OAt S o m ∧ m.bell ≠ none ∧ m.state = "sending" ∧ ∀ S', OAt S' o (sendM m n).1 → Fr S S' o → Φ (rowsD (sendM m n).2) S'
def sp__law_sender_on (_ : Ad) : LSp := fun xs S Φ _ => ∃ o m n, xs = [.adr o, .int n] ∧ OAt S o m ∧ (m.bell = none ∨ m.state = "waiting" ∨ m.state = "sending") ∧ ∃ r, goM m n = some r ∧ ∀ S', OAt S' o r.1 → Fr S S' o → Φ (rowsD r.2) S'
def sp__law_sender_begins (_ : Ad) : LSp := fun xs S Φ _ => ∃ o m n, xs = [.adr o, .int n] ∧ OAt S o m ∧ m.state = "new" ∧ m.pos = 6 ∧ m.bell = none ∧ ∀ S', OAt S' o (startM m n).1 → Fr S S' o → Φ (rowsD (startM m n).2) S'
def sp__law_sender_gets (_ : Ad) : LSp := fun xs S Φ _ => ∃ o m oct n, xs = [.adr o, il oct, .int n] ∧ OAt S o m ∧ (m.bell = none ∨ m.state = "waiting" ∨ m.state = "sending") ∧ oct.length ≤ 8 ∧ ∃ r, getM m n oct = some r ∧ ∀ S', OAt S' o r.1 → Fr S S' o → Φ (rowsD r.2) S'
/-- what the law's call tells: get, go, begin -/
def calledM (m : M) (w : Str) (oct : List Int) (n : Int) : Option (M × Dt) :=
  if n < m.now then some (m, .tup [.str "wrong", .int n])
  else if w = "get" then (getM m n oct).map fun r => (r.1, .tup [.str "told", rowsD r.2])
  else if w = "begin" then (if m.state = "new" then some ((startM m n).1, .tup [.str "told", rowsD (startM m n).2]) else some ({ m with now := n }, .tup [.str "wrong", .str "begin"]))
  else (goM m n).map fun r => (r.1, .tup [.str "told", rowsD r.2])
def sp__law_called (A : Ad) : LSp := fun xs S Φ _ => ∃ a c m w d oct n, xs = [.adr a, .str w, d, .int n] ∧ w ∈ (["get", "go", "begin"] : List Str) ∧ SAt A S a c m ∧ (m.bell = none ∨ m.state = "waiting" ∨ m.state = "sending") ∧
  (w = "get" → d = il oct ∧ octs oct = true ∧ oct.length ≤ 8 ∧ ∃ d, toldM oct = some d) ∧ ∃ r, calledM m w oct n = some r ∧ ∀ S', SAt A S' a c r.1 → Fr2 S S' a c → Φ r.2 S'
def sp__law_made (_ : Ad) : LSp := fun xs S Φ _ => ∃ d ds, xs = [d] ∧ dLst S d = some ds ∧ ds.length ≤ 5000 ∧ ∀ S', (∀ b m, S b = some m → S' b = S b) → Φ (if 1 ≤ ds.length ∧ ds.length ≤ 4095 then .non else .int ds.length) S'
def sp__law_flow (_ : Ad) : LSp := fun xs S Φ _ => ∃ a, xs = [.adr a] ∧ DrAt S a ∧ ∀ oct S', octs oct = true → oct.length ≤ 8 → (∃ d, toldM oct = some d) → DrAt S' a → Fr S S' a → Φ (il oct) S'

abbrev st_is_number : Stmt := top 5
theorem sc_is_number : FnScope ["thing", "low", "high"] ["thing", "low", "high"] (defScope st_is_number) := ⟨rfl, rfl, rfl, by decide +kernel, rfl, by decide +kernel, by decide +kernel⟩
def T_is_number (A : Ad) : LTs := (sRet (ofP (vAnd (pUn (dIsi "int") (pVar 0)) (vAnd (vNot (pUn (dIsi "bool") (pVar 0))) (pCh dLe dLe (pVar 1) (pVar 0) (pVar 2))))))
abbrev st_is_octets : Stmt := top 6
theorem sc_is_octets : FnScope ["thing", "most", "octet"] ["thing", "most"] (defScope st_is_octets) := ⟨rfl, rfl, rfl, by decide +kernel, rfl, by decide +kernel, by decide +kernel⟩
def T_is_octets (A : Ad) : LTs := (sRet (ofP (vAnd (pUn (dIsi "list") (pVar 0)) (vAnd (pOp dLe (pCall oLen (aCons (pVar 0) aNil)) (pVar 1)) (pCall oAll (aCons (pLc (pSeq (pVar 0)) [2] (G1 2) bYes (pFn g_is_number (aCons (pVar 2) (aCons (pC (.int 0)) (aCons (pC (.int 255)) aNil))))) aNil))))))
abbrev st_single : Stmt := top 10
theorem sc_single : FnScope ["data"] ["data"] (defScope st_single) := ⟨rfl, rfl, rfl, by decide +kernel, rfl, by decide +kernel, by decide +kernel⟩
def T_single (A : Ad) : LTs := (sRet (ofP (pOp dAdd (pLst (aCons (pCall oLen (aCons (pVar 0) aNil)) aNil)) (pVar 0))))
abbrev st_first : Stmt := top 11
theorem sc_first : FnScope ["data"] ["data"] (defScope st_first) := ⟨rfl, rfl, rfl, by decide +kernel, rfl, by decide +kernel, by decide +kernel⟩
def T_first (A : Ad) : LTs := (sRet (ofP (pOp dAdd (pLst (aCons (pOp dAdd (pC (.int 16)) (pOp dShr (pCall oLen (aCons (pVar 0) aNil)) (pC (.int 8)))) (aCons (pOp dAnd (pCall oLen (aCons (pVar 0) aNil)) (pC (.int 255))) aNil))) (pSl (pVar 0) oNone (oSome (pC (.int 6)))))))
abbrev st_next_part : Stmt := top 12
theorem sc_next_part : FnScope ["number", "data"] ["number", "data"] (defScope st_next_part) := ⟨rfl, rfl, rfl, by decide +kernel, rfl, by decide +kernel, by decide +kernel⟩
def T_next_part (A : Ad) : LTs := (sRet (ofP (pOp dAdd (pLst (aCons (pOp dAdd (pC (.int 32)) (pOp dAnd (pVar 0) (pC (.int 15)))) aNil)) (pVar 1))))
abbrev st_told_by : Stmt := top 13
theorem sc_told_by : FnScope ["octets", "word", "low", "total"] ["octets"] (defScope st_told_by) := ⟨rfl, rfl, rfl, by decide +kernel, rfl, by decide +kernel, by decide +kernel⟩
def T_told_by (A : Ad) : LTs := (sSeq (sIf (ofB (bOr (bNot (pT (pFn g_is_octets (aCons (pVar 0) (aCons (pC (.int 8)) aNil))))) (pB (pOp dEq (pCall oLen (aCons (pVar 0) aNil)) (pC (.int 0)))))) (sRet (ofP (pC .non))) sNext) (sSeq (sPar 1 2 (ofL (aCons (pOp dShr (pOp dIx (pVar 0) (pC (.int 0))) (pC (.int 4))) (aCons (pOp dAnd (pOp dIx (pVar 0) (pC (.int 0))) (pC (.int 15))) aNil)))) (sSeq (sIf (ofB (pB (pOp dEq (pVar 1) (pC (.int 0))))) (sRet (ofP (pIf (bAnd (pB (pCh dLe dLe (pC (.int 1)) (pVar 2) (pC (.int 7)))) (pB (pOp dGt (pCall oLen (aCons (pVar 0) aNil)) (pVar 2)))) (pTup (aCons (pC (.str "single")) (aCons (pSl (pVar 0) (oSome (pC (.int 1))) (oSome (pOp dAdd (pC (.int 1)) (pVar 2)))) aNil))) (pC .non)))) sNext) (sSeq (sIf (ofB (pB (pOp dEq (pVar 1) (pC (.int 1))))) (sSeq (sAsg (ofP (pIf (pB (pOp dEq (pCall oLen (aCons (pVar 0) aNil)) (pC (.int 8)))) (pOp dAdd (pOp dMul (pVar 2) (pC (.int 256))) (pOp dIx (pVar 0) (pC (.int 1)))) (pC (.int 0)))) (gNm 3)) (sRet (ofP (pIf (pB (pOp dGe (pVar 3) (pC (.int 8)))) (pTup (aCons (pC (.str "first")) (aCons (pVar 3) (aCons (pSl (pVar 0) (oSome (pC (.int 2))) oNone) aNil)))) (pC .non))))) sNext) (sSeq (sIf (ofB (pB (pOp dEq (pVar 1) (pC (.int 2))))) (sRet (ofP (pIf (pB (pOp dGt (pCall oLen (aCons (pVar 0) aNil)) (pC (.int 1)))) (pTup (aCons (pC (.str "next")) (aCons (pVar 2) (aCons (pSl (pVar 0) (oSome (pC (.int 1))) oNone) aNil)))) (pC .non)))) sNext) (sRet (ofP (pIf (bAnd (pB (pOp dEq (pVar 1) (pC (.int 3)))) (pB (pOp dGe (pCall oLen (aCons (pVar 0) aNil)) (pC (.int 3))))) (pTup (aCons (pC (.str "flow")) (aCons (pVar 2) (aCons (pOp dIx (pVar 0) (pC (.int 1))) (aCons (pOp dIx (pVar 0) (pC (.int 2))) aNil))))) (pC .non)))))))))
abbrev st_gap_of : Stmt := top 14
theorem sc_gap_of : FnScope ["octet"] ["octet"] (defScope st_gap_of) := ⟨rfl, rfl, rfl, by decide +kernel, rfl, by decide +kernel, by decide +kernel⟩
def T_gap_of (A : Ad) : LTs := (sRet (ofP (pCall oMin (aCons (pVar 0) (aCons (pC (.int 127)) aNil)))))
abbrev st_Clock_init : Stmt := inClass (top 17) 0
theorem sc_Clock_init : FnScope ["self"] ["self"] (defScope st_Clock_init) := ⟨rfl, rfl, rfl, by decide +kernel, rfl, by decide +kernel, by decide +kernel⟩
def T_Clock_init (A : Ad) : LTs := (sAsg (ofP (pC (.int 0))) (gFld A.k_Clock 0 (pVar 0)))
abbrev st_Clock_pass_to : Stmt := inClass (top 17) 1
theorem sc_Clock_pass_to : FnScope ["self", "now"] ["self", "now"] (defScope st_Clock_pass_to) := ⟨rfl, rfl, rfl, by decide +kernel, rfl, by decide +kernel, by decide +kernel⟩
def T_Clock_pass_to (A : Ad) : LTs := (sSeq (sIf (ofB (pB (pOp dLt (pVar 1) (pUn (dFld A.k_Clock 0) (pVar 0))))) (sRaise A.DeedWrong "DeedWrong" (ofL (aCons (pVar 1) aNil))) sNext) (sAsg (ofP (pVar 1)) (gFld A.k_Clock 0 (pVar 0))))
abbrev st_Sender_init : Stmt := inClass (top 18) 0
theorem sc_Sender_init : FnScope ["self", "data", "waits"] ["self", "data", "waits"] (defScope st_Sender_init) := ⟨rfl, rfl, rfl, by decide +kernel, rfl, by decide +kernel, by decide +kernel⟩
def T_Sender_init (A : Ad) : LTs := (sSeq (sIf (ofB (bNot (pB (pCh dLe dLe (pC (.int 1)) (pCall oLen (aCons (pVar 1) aNil)) (pC (.int 4095)))))) (sRaise A.Wrong "Wrong" (ofL (aCons (pCall oLen (aCons (pVar 1) aNil)) aNil))) sNext) (sSeq (sAsg (ofP (pCall oList (aCons (pVar 1) aNil))) (gFld A.k_Sender 0 (pVar 0))) (sSeq (sAsg (ofP (pVar 2)) (gFld A.k_Sender 1 (pVar 0))) (sSeq (sAsg (ofP (pC (.str "new"))) (gFld A.k_Sender 2 (pVar 0))) (sSeq (sAsg (tMakeF A.k_Clock (sp_Clock_init A) (ofL aNil)) (gFld A.k_Sender 3 (pVar 0))) (sSeq (sAsg (ofP (pC (.int 0))) (gFld A.k_Sender 4 (pVar 0))) (sSeq (sAsg (ofP (pC (.int 0))) (gFld A.k_Sender 5 (pVar 0))) (sSeq (sAsg (ofP (pC .non)) (gFld A.k_Sender 6 (pVar 0))) (sSeq (sAsg (ofP (pC (.int 0))) (gFld A.k_Sender 7 (pVar 0))) (sAsg (ofP (pC .non)) (gFld A.k_Sender 8 (pVar 0))))))))))))
abbrev st_Sender_due : Stmt := inClass (top 18) 1
theorem sc_Sender_due : FnScope ["self"] ["self"] (defScope st_Sender_due) := ⟨rfl, rfl, rfl, by decide +kernel, rfl, by decide +kernel, by decide +kernel⟩
def T_Sender_due (A : Ad) : LTs := (sRet (ofP (pUn (dFld A.k_Sender 8) (pVar 0))))
abbrev st_Sender_end : Stmt := inClass (top 18) 2
theorem sc_Sender_end : FnScope ["self", "state"] ["self", "state"] (defScope st_Sender_end) := ⟨rfl, rfl, rfl, by decide +kernel, rfl, by decide +kernel, by decide +kernel⟩
def T_Sender_end (A : Ad) : LTs := (sSeq (sAsg (ofP (pVar 1)) (gFld A.k_Sender 2 (pVar 0))) (sAsg (ofP (pC .non)) (gFld A.k_Sender 8 (pVar 0))))
abbrev st_Sender_begin : Stmt := inClass (top 18) 3
theorem sc_Sender_begin : FnScope ["self", "now"] ["self", "now"] (defScope st_Sender_begin) := ⟨rfl, rfl, rfl, by decide +kernel, rfl, by decide +kernel, by decide +kernel⟩
def T_Sender_begin (A : Ad) : LTs := (sSeq (sExpr (tMethF A.k_Clock (sp_Clock_pass_to A) (pUn (dFld A.k_Sender 3) (pVar 0)) (ofL (aCons (pVar 1) aNil)))) (sSeq (sIf (ofB (pB (pOp dNe (pUn (dFld A.k_Sender 2) (pVar 0)) (pC (.str "new"))))) (sRaise A.DeedWrong "DeedWrong" (ofL (aCons (pC (.str "begin")) aNil))) sNext) (sSeq (sIf (ofB (pB (pOp dLt (pCall oLen (aCons (pUn (dFld A.k_Sender 0) (pVar 0)) aNil)) (pC (.int 8))))) (sSeq (sExpr (tMethF A.k_Sender (sp_Sender_end A) (pVar 0) (ofL (aCons (pC (.str "done")) aNil)))) (sRet (ofP (pLst (aCons (pTup (aCons (pVar 1) (aCons (pFn g_single (aCons (pUn (dFld A.k_Sender 0) (pVar 0)) aNil)) aNil))) aNil))))) sNext) (sSeq (sAsg (ofP (pC (.str "waiting"))) (gFld A.k_Sender 2 (pVar 0))) (sSeq (sAsg (ofP (pC (.int 6))) (gFld A.k_Sender 4 (pVar 0))) (sSeq (sAsg (ofP (pOp dAdd (pVar 1) (pC (.int 1000)))) (gFld A.k_Sender 8 (pVar 0))) (sRet (ofP (pLst (aCons (pTup (aCons (pVar 1) (aCons (pFn g_first (aCons (pUn (dFld A.k_Sender 0) (pVar 0)) aNil)) aNil))) aNil))))))))))
abbrev st_Sender_go_on : Stmt := inClass (top 18) 4
theorem sc_Sender_go_on : FnScope ["self", "now", "found"] ["self", "now"] (defScope st_Sender_go_on) := ⟨rfl, rfl, rfl, by decide +kernel, rfl, by decide +kernel, by decide +kernel⟩
def T_Sender_go_on (A : Ad) : LTs := (sSeq (sAsg (ofP (pLst aNil)) (gNm 2)) (sSeq (sExpr (tMethF A.k_Clock (sp_Clock_pass_to A) (pUn (dFld A.k_Sender 3) (pVar 0)) (ofL (aCons (pVar 1) aNil)))) (sSeq (sWhile (ofB (bAnd (pB (pUn oNotN (pUn (dFld A.k_Sender 8) (pVar 0)))) (pB (pOp dLe (pUn (dFld A.k_Sender 8) (pVar 0)) (pVar 1))))) (sIf (ofB (pB (pOp dEq (pUn (dFld A.k_Sender 2) (pVar 0)) (pC (.str "waiting"))))) (sExpr (tMethF A.k_Sender (sp_Sender_end A) (pVar 0) (ofL (aCons (pC (.str "late")) aNil)))) (sAsg (tBin dAdd (ofP (pVar 2)) (tMethF A.k_Sender (sp_Sender_send_next A) (pVar 0) (ofL (aCons (pUn (dFld A.k_Sender 8) (pVar 0)) aNil)))) (gNm 2)))) (sRet (ofP (pVar 2))))))
abbrev st_Sender_send_next : Stmt := inClass (top 18) 5
theorem sc_Sender_send_next : FnScope ["self", "now", "octets"] ["self", "now"] (defScope st_Sender_send_next) := ⟨rfl, rfl, rfl, by decide +kernel, rfl, by decide +kernel, by decide +kernel⟩
def T_Sender_send_next (A : Ad) : LTs := (sSeq (sAsg (ofP (pOp dAnd (pOp dAdd (pUn (dFld A.k_Sender 5) (pVar 0)) (pC (.int 1))) (pC (.int 15)))) (gFld A.k_Sender 5 (pVar 0))) (sSeq (sAsg (ofP (pFn g_next_part (aCons (pUn (dFld A.k_Sender 5) (pVar 0)) (aCons (pSl (pUn (dFld A.k_Sender 0) (pVar 0)) (oSome (pUn (dFld A.k_Sender 4) (pVar 0))) (oSome (pOp dAdd (pUn (dFld A.k_Sender 4) (pVar 0)) (pC (.int 7))))) aNil)))) (gNm 2)) (sSeq (sFldU A.k_Sender 4 (pVar 0) dAddI (ofP (pC (.int 7)))) (sSeq (sIf (ofB (pB (pUn oNotN (pUn (dFld A.k_Sender 6) (pVar 0))))) (sFldU A.k_Sender 6 (pVar 0) dSub (ofP (pC (.int 1)))) sNext) (sSeq (sIf (ofB (pB (pOp dGe (pUn (dFld A.k_Sender 4) (pVar 0)) (pCall oLen (aCons (pUn (dFld A.k_Sender 0) (pVar 0)) aNil))))) (sExpr (tMethF A.k_Sender (sp_Sender_end A) (pVar 0) (ofL (aCons (pC (.str "done")) aNil)))) (sIf (ofB (pB (pOp dEq (pUn (dFld A.k_Sender 6) (pVar 0)) (pC (.int 0))))) (sSeq (sAsg (ofP (pC (.str "waiting"))) (gFld A.k_Sender 2 (pVar 0))) (sAsg (ofP (pOp dAdd (pVar 1) (pC (.int 1000)))) (gFld A.k_Sender 8 (pVar 0)))) (sAsg (ofP (pOp dAdd (pVar 1) (pUn (dFld A.k_Sender 7) (pVar 0)))) (gFld A.k_Sender 8 (pVar 0))))) (sRet (ofP (pLst (aCons (pTup (aCons (pVar 1) (aCons (pVar 2) aNil))) aNil)))))))))
abbrev st_Sender_get : Stmt := inClass (top 18) 6
theorem sc_Sender_get : FnScope ["self", "octets", "now", "found", "told"] ["self", "octets", "now"] (defScope st_Sender_get) := ⟨rfl, rfl, rfl, by decide +kernel, rfl, by decide +kernel, by decide +kernel⟩
def T_Sender_get (A : Ad) : LTs := (sSeq (sAsg (tMethF A.k_Sender (sp_Sender_go_on A) (pVar 0) (ofL (aCons (pVar 2) aNil))) (gNm 3)) (sSeq (sAsg (ofP (pFn g_told_by (aCons (pVar 1) aNil))) (gNm 4)) (sSeq (sIf (ofB (bOr (pB (pOp dNe (pUn (dFld A.k_Sender 2) (pVar 0)) (pC (.str "waiting")))) (bOr (pB (pUn oIsN (pVar 4))) (pB (pOp dNe (pOp dIx (pVar 4) (pC (.int 0))) (pC (.str "flow"))))))) (sRet (ofP (pVar 3))) sNext) (sSeq (sIf (ofB (pB (pOp dEq (pOp dIx (pVar 4) (pC (.int 1))) (pC (.int 1))))) (sSeq (sFldU A.k_Sender 1 (pVar 0) dSub (ofP (pC (.int 1)))) (sSeq (sAsg (ofP (pOp dAdd (pVar 2) (pC (.int 1000)))) (gFld A.k_Sender 8 (pVar 0))) (sSeq (sIf (ofB (pB (pOp dLt (pUn (dFld A.k_Sender 1) (pVar 0)) (pC (.int 0))))) (sExpr (tMethF A.k_Sender (sp_Sender_end A) (pVar 0) (ofL (aCons (pC (.str "tired")) aNil)))) sNext) (sRet (ofP (pVar 3)))))) sNext) (sSeq (sIf (ofB (pB (pOp dNe (pOp dIx (pVar 4) (pC (.int 1))) (pC (.int 0))))) (sSeq (sExpr (tMethF A.k_Sender (sp_Sender_end A) (pVar 0) (ofL (aCons (pIf (pB (pOp dEq (pOp dIx (pVar 4) (pC (.int 1))) (pC (.int 2)))) (pC (.str "refused")) (pC (.str "wrong"))) aNil)))) (sRet (ofP (pVar 3)))) sNext) (sSeq (sAsg (ofP (pC (.str "sending"))) (gFld A.k_Sender 2 (pVar 0))) (sSeq (sAsg (ofP (pIf (pB (pOp dGt (pOp dIx (pVar 4) (pC (.int 2))) (pC (.int 0)))) (pOp dIx (pVar 4) (pC (.int 2))) (pC .non))) (gFld A.k_Sender 6 (pVar 0))) (sSeq (sAsg (ofP (pFn g_gap_of (aCons (pOp dIx (pVar 4) (pC (.int 3))) aNil))) (gFld A.k_Sender 7 (pVar 0))) (sSeq (sAsg (ofP (pVar 2)) (gFld A.k_Sender 8 (pVar 0))) (sRet (tBin dAdd (ofP (pVar 3)) (tMethF A.k_Sender (sp_Sender_go_on A) (pVar 0) (ofL (aCons (pVar 2) aNil))))))))))))))
abbrev st__law_draws : Stmt := top 20
theorem sc__law_draws : FnScope ["script"] ["script"] (defScope st__law_draws) := ⟨rfl, rfl, rfl, by decide +kernel, rfl, by decide +kernel, by decide +kernel⟩
def T__law_draws (A : Ad) : LTs := (sRet (tLstM (ofL (aCons (pCall oList (aCons (pVar 0) aNil)) (aCons (pC (.int 0)) (aCons (pC (.int 0)) (aCons (pC (.int 1)) aNil)))))))
abbrev st__law_draw : Stmt := top 21
theorem sc__law_draw : FnScope ["draws", "limit", "cell", "value"] ["draws", "limit"] (defScope st__law_draw) := ⟨rfl, rfl, rfl, by decide +kernel, rfl, by decide +kernel, by decide +kernel⟩
def T__law_draw (A : Ad) : LTs := (sSeq (sIf (ofB (bAnd (pB (pOp dEq (pOp dIx (pVar 0) (pC (.int 2))) (pC (.int 0)))) (pB (pOp dLt (pOp dIx (pVar 0) (pC (.int 1))) (pCall oLen (aCons (pOp dIx (pVar 0) (pC (.int 0))) aNil)))))) (sSeq (sAsg (ofP (pOp dIx (pOp dIx (pVar 0) (pC (.int 0))) (pOp dIx (pVar 0) (pC (.int 1))))) (gNm 2)) (sSeq (sAsg (ofP (pOp dAdd (pOp dIx (pVar 0) (pC (.int 1))) (pC (.int 1)))) (gIx (pVar 0) (pC (.int 1)))) (sSeq (sIf (ofB (pB (pOp dGe (pVar 2) (pOp dPow (pC (.int 10)) (pC (.int 18)))))) (sAsg (ofP (pVar 2)) (gIx (pVar 0) (pC (.int 2)))) sNext) (sAsg (ofP (pOp dMod (pCall oInt (aCons (pOp dAdd (pOp dAdd (pOp dMul (pOp dIx (pVar 0) (pC (.int 3))) (pC (.int 48271))) (pVar 2)) (pC (.int 13))) aNil)) (pC (.int 2147483647)))) (gIx (pVar 0) (pC (.int 3))))))) sNext) (sSeq (sIf (ofB (pB (pOp dGt (pOp dIx (pVar 0) (pC (.int 2))) (pC (.int 0))))) (sSeq (sAsg (ofP (pOp dMod (pCall oInt (aCons (pOp dIx (pVar 0) (pC (.int 2))) aNil)) (pVar 1))) (gNm 3)) (sSeq (sAsg (ofP (pOp dFdiv (pOp dIx (pVar 0) (pC (.int 2))) (pVar 1))) (gIx (pVar 0) (pC (.int 2)))) (sRet (ofP (pVar 3))))) sNext) (sSeq (sAsg (ofP (pOp dMod (pCall oInt (aCons (pOp dAdd (pOp dMul (pOp dIx (pVar 0) (pC (.int 3))) (pC (.int 69621))) (pC (.int 7))) aNil)) (pC (.int 2147483629)))) (gIx (pVar 0) (pC (.int 3)))) (sRet (ofP (pOp dMod (pCall oInt (aCons (pOp dFdiv (pOp dIx (pVar 0) (pC (.int 3))) (pC (.int 11))) aNil)) (pVar 1)))))))
abbrev st__law_same : Stmt := top 22
theorem sc__law_same : FnScope ["x", "due", "key", "right", "at"] ["x", "due"] (defScope st__law_same) := ⟨rfl, rfl, rfl, by decide +kernel, rfl, by decide +kernel, by decide +kernel⟩
def T__law_same (A : Ad) (n : Nat) : LTs := (sSeq (sIf (ofB (pB (pUn oIsN (pVar 1)))) (sRet (ofP (pUn oIsN (pVar 0)))) sNext) (sSeq (sIf (ofB (pT (pUn (dIsi "bool") (pVar 1)))) (sRet (ofP (vAnd (pUn (dIsi "bool") (pVar 0)) (pOp dEq (pVar 0) (pVar 1))))) sNext) (sSeq (sIf (ofB (pT (pUn (dIsi "int") (pVar 1)))) (sRet (ofP (vAnd (pUn (dIsi "int") (pVar 0)) (vAnd (vNot (pUn (dIsi "bool") (pVar 0))) (pOp dEq (pVar 0) (pVar 1)))))) sNext) (sSeq (sIf (ofB (pT (pUn (dIsi "str") (pVar 1)))) (sRet (ofP (vAnd (pUn (dIsi "str") (pVar 0)) (pOp dEq (pVar 0) (pVar 1))))) sNext) (sSeq (sIf (ofB (pT (pUn (dIsi "dict") (pVar 1)))) sDead sNext) (sSeq (sIf (ofB (pT (pUn (dIsi "list") (pVar 1)))) (sAsg (ofP (pUn (dIsi "list") (pVar 0))) (gNm 3)) (sAsg (ofP (pUn (dIsi "tuple") (pVar 0))) (gNm 3))) (sRet (ofP (vAnd (pVar 3) (vAnd (pOp dEq (pCall oLen (aCons (pVar 0) aNil)) (pCall oLen (aCons (pVar 1) aNil))) (pCall oAll (aCons (pLc (pRng1 (aCons (pCall oLen (aCons (pVar 1) aNil)) aNil)) [4] (G1 4) bYes (pFn (g__law_same n) (aCons (pOp dIx (pVar 0) (pVar 4)) (aCons (pOp dIx (pVar 1) (pVar 4)) aNil)))) aNil))))))))))))
abbrev st__law_new_sender : Stmt := top 23
theorem sc__law_new_sender : FnScope ["data", "waits"] ["data", "waits"] (defScope st__law_new_sender) := ⟨rfl, rfl, rfl, by decide +kernel, rfl, by decide +kernel, by decide +kernel⟩
def T__law_new_sender (A : Ad) : LTs := (sRet (tDic ["data", "waits", "state", "at", "number", "left", "gap", "bell", "now"] [(ofP (pVar 0)), (ofP (pVar 1)), (ofP (pC (.str "new"))), (ofP (pC (.int 6))), (ofP (pC (.int 0))), (ofP (pC .non)), (ofP (pC (.int 0))), (ofP (pC .non)), (ofP (pC (.int 0)))]))
abbrev st__law_sender_next : Stmt := top 24
theorem sc__law_sender_next : FnScope ["own", "now", "octets"] ["own", "now"] (defScope st__law_sender_next) := ⟨rfl, rfl, rfl, by decide +kernel, rfl, by decide +kernel, by decide +kernel⟩
def T__law_sender_next (A : Ad) : LTs := (sSeq (sAsg (ofP (pOp dMod (pCall oInt (aCons (pOp dAdd (pUn (dAt (dKeys ["data", "waits", "state", "at", "number", "left", "gap", "bell", "now"]) 4) (pVar 0)) (pC (.int 1))) aNil)) (pC (.int 16)))) (gKey (dKeys ["data", "waits", "state", "at", "number", "left", "gap", "bell", "now"]) 4 (pVar 0))) (sSeq (sAsg (ofP (pOp dAdd (pLst (aCons (pOp dAdd (pC (.int 32)) (pUn (dAt (dKeys ["data", "waits", "state", "at", "number", "left", "gap", "bell", "now"]) 4) (pVar 0))) aNil)) (pSl (pUn (dAt (dKeys ["data", "waits", "state", "at", "number", "left", "gap", "bell", "now"]) 0) (pVar 0)) (oSome (pUn (dAt (dKeys ["data", "waits", "state", "at", "number", "left", "gap", "bell", "now"]) 3) (pVar 0))) (oSome (pOp dAdd (pUn (dAt (dKeys ["data", "waits", "state", "at", "number", "left", "gap", "bell", "now"]) 3) (pVar 0)) (pC (.int 7))))))) (gNm 2)) (sSeq (sAsg (ofP (pOp dAdd (pUn (dAt (dKeys ["data", "waits", "state", "at", "number", "left", "gap", "bell", "now"]) 3) (pVar 0)) (pC (.int 7)))) (gKey (dKeys ["data", "waits", "state", "at", "number", "left", "gap", "bell", "now"]) 3 (pVar 0))) (sSeq (sAsg (ofP (pIf (pB (pUn oIsN (pUn (dAt (dKeys ["data", "waits", "state", "at", "number", "left", "gap", "bell", "now"]) 5) (pVar 0)))) (pC .non) (pOp dSub (pUn (dAt (dKeys ["data", "waits", "state", "at", "number", "left", "gap", "bell", "now"]) 5) (pVar 0)) (pC (.int 1))))) (gKey (dKeys ["data", "waits", "state", "at", "number", "left", "gap", "bell", "now"]) 5 (pVar 0))) (sSeq (sIf (ofB (pB (pOp dGe (pUn (dAt (dKeys ["data", "waits", "state", "at", "number", "left", "gap", "bell", "now"]) 3) (pVar 0)) (pCall oLen (aCons (pUn (dAt (dKeys ["data", "waits", "state", "at", "number", "left", "gap", "bell", "now"]) 0) (pVar 0)) aNil))))) (sAsg (ofP (pTup (aCons (pC (.str "done")) (aCons (pC .non) aNil)))) (gTup2 (gKey (dKeys ["data", "waits", "state", "at", "number", "left", "gap", "bell", "now"]) 2 (pVar 0)) (gKey (dKeys ["data", "waits", "state", "at", "number", "left", "gap", "bell", "now"]) 7 (pVar 0)))) (sIf (ofB (pB (pOp dEq (pUn (dAt (dKeys ["data", "waits", "state", "at", "number", "left", "gap", "bell", "now"]) 5) (pVar 0)) (pC (.int 0))))) (sAsg (ofP (pTup (aCons (pC (.str "waiting")) (aCons (pOp dAdd (pVar 1) (pC (.int 1000))) aNil)))) (gTup2 (gKey (dKeys ["data", "waits", "state", "at", "number", "left", "gap", "bell", "now"]) 2 (pVar 0)) (gKey (dKeys ["data", "waits", "state", "at", "number", "left", "gap", "bell", "now"]) 7 (pVar 0)))) (sAsg (ofP (pOp dAdd (pVar 1) (pUn (dAt (dKeys ["data", "waits", "state", "at", "number", "left", "gap", "bell", "now"]) 6) (pVar 0)))) (gKey (dKeys ["data", "waits", "state", "at", "number", "left", "gap", "bell", "now"]) 7 (pVar 0))))) (sRet (ofP (pLst (aCons (pTup (aCons (pVar 1) (aCons (pVar 2) aNil))) aNil)))))))))
abbrev st__law_sender_on : Stmt := top 25
theorem sc__law_sender_on : FnScope ["own", "now", "found"] ["own", "now"] (defScope st__law_sender_on) := ⟨rfl, rfl, rfl, by decide +kernel, rfl, by decide +kernel, by decide +kernel⟩
def T__law_sender_on (A : Ad) : LTs := (sSeq (sAsg (ofP (pLst aNil)) (gNm 2)) (sSeq (sAsg (ofP (pVar 1)) (gKey (dKeys ["data", "waits", "state", "at", "number", "left", "gap", "bell", "now"]) 8 (pVar 0))) (sSeq (sWhile (ofB (bAnd (pB (pUn oNotN (pUn (dAt (dKeys ["data", "waits", "state", "at", "number", "left", "gap", "bell", "now"]) 7) (pVar 0)))) (pB (pOp dLe (pUn (dAt (dKeys ["data", "waits", "state", "at", "number", "left", "gap", "bell", "now"]) 7) (pVar 0)) (pVar 1))))) (sIf (ofB (pB (pOp dEq (pUn (dAt (dKeys ["data", "waits", "state", "at", "number", "left", "gap", "bell", "now"]) 2) (pVar 0)) (pC (.str "waiting"))))) (sAsg (ofP (pTup (aCons (pC (.str "late")) (aCons (pC .non) aNil)))) (gTup2 (gKey (dKeys ["data", "waits", "state", "at", "number", "left", "gap", "bell", "now"]) 2 (pVar 0)) (gKey (dKeys ["data", "waits", "state", "at", "number", "left", "gap", "bell", "now"]) 7 (pVar 0)))) (sAsg (tBin dAdd (ofP (pVar 2)) (tCallF (sp__law_sender_next A) (ofL (aCons (pVar 0) (aCons (pUn (dAt (dKeys ["data", "waits", "state", "at", "number", "left", "gap", "bell", "now"]) 7) (pVar 0)) aNil))))) (gNm 2)))) (sRet (ofP (pVar 2))))))
abbrev st__law_sender_begins : Stmt := top 26
theorem sc__law_sender_begins : FnScope ["own", "now", "data"] ["own", "now"] (defScope st__law_sender_begins) := ⟨rfl, rfl, rfl, by decide +kernel, rfl, by decide +kernel, by decide +kernel⟩
def T__law_sender_begins (A : Ad) : LTs := (sSeq (sAsg (ofP (pVar 1)) (gKey (dKeys ["data", "waits", "state", "at", "number", "left", "gap", "bell", "now"]) 8 (pVar 0))) (sSeq (sAsg (ofP (pUn (dAt (dKeys ["data", "waits", "state", "at", "number", "left", "gap", "bell", "now"]) 0) (pVar 0))) (gNm 2)) (sSeq (sIf (ofB (pB (pOp dLt (pCall oLen (aCons (pVar 2) aNil)) (pC (.int 8))))) (sSeq (sAsg (ofP (pC (.str "done"))) (gKey (dKeys ["data", "waits", "state", "at", "number", "left", "gap", "bell", "now"]) 2 (pVar 0))) (sRet (ofP (pLst (aCons (pTup (aCons (pVar 1) (aCons (pOp dAdd (pLst (aCons (pCall oLen (aCons (pVar 2) aNil)) aNil)) (pVar 2)) aNil))) aNil))))) sNext) (sSeq (sAsg (ofP (pTup (aCons (pC (.str "waiting")) (aCons (pOp dAdd (pVar 1) (pC (.int 1000))) aNil)))) (gTup2 (gKey (dKeys ["data", "waits", "state", "at", "number", "left", "gap", "bell", "now"]) 2 (pVar 0)) (gKey (dKeys ["data", "waits", "state", "at", "number", "left", "gap", "bell", "now"]) 7 (pVar 0)))) (sRet (ofP (pLst (aCons (pTup (aCons (pVar 1) (aCons (pOp dAdd (pLst (aCons (pOp dAdd (pC (.int 16)) (pOp dFdiv (pCall oLen (aCons (pVar 2) aNil)) (pC (.int 256)))) (aCons (pOp dMod (pCall oInt (aCons (pCall oLen (aCons (pVar 2) aNil)) aNil)) (pC (.int 256))) aNil))) (pSl (pVar 2) oNone (oSome (pC (.int 6))))) aNil))) aNil))))))))
abbrev st__law_sender_gets : Stmt := top 27
theorem sc__law_sender_gets : FnScope ["own", "octets", "now", "found", "word"] ["own", "octets", "now"] (defScope st__law_sender_gets) := ⟨rfl, rfl, rfl, by decide +kernel, rfl, by decide +kernel, by decide +kernel⟩
def T__law_sender_gets (A : Ad) : LTs := (sSeq (sAsg (tCallF (sp__law_sender_on A) (ofL (aCons (pVar 0) (aCons (pVar 2) aNil)))) (gNm 3)) (sSeq (sIf (ofB (bOr (pB (pOp dNe (pUn (dAt (dKeys ["data", "waits", "state", "at", "number", "left", "gap", "bell", "now"]) 2) (pVar 0)) (pC (.str "waiting")))) (bOr (bNot (pB (pCh dLt dLt (pC (.int 2)) (pCall oLen (aCons (pVar 1) aNil)) (pC (.int 9))))) (pB (pOp dNe (pOp dFdiv (pOp dIx (pVar 1) (pC (.int 0))) (pC (.int 16))) (pC (.int 3))))))) (sRet (ofP (pVar 3))) sNext) (sSeq (sAsg (ofP (pOp dMod (pCall oInt (aCons (pOp dIx (pVar 1) (pC (.int 0))) aNil)) (pC (.int 16)))) (gNm 4)) (sSeq (sIf (ofB (pB (pOp dEq (pVar 4) (pC (.int 1))))) (sSeq (sAsg (ofP (pOp dSub (pUn (dAt (dKeys ["data", "waits", "state", "at", "number", "left", "gap", "bell", "now"]) 1) (pVar 0)) (pC (.int 1)))) (gKey (dKeys ["data", "waits", "state", "at", "number", "left", "gap", "bell", "now"]) 1 (pVar 0))) (sSeq (sAsg (ofP (pOp dAdd (pVar 2) (pC (.int 1000)))) (gKey (dKeys ["data", "waits", "state", "at", "number", "left", "gap", "bell", "now"]) 7 (pVar 0))) (sIf (ofB (pB (pOp dLt (pUn (dAt (dKeys ["data", "waits", "state", "at", "number", "left", "gap", "bell", "now"]) 1) (pVar 0)) (pC (.int 0))))) (sAsg (ofP (pTup (aCons (pC (.str "tired")) (aCons (pC .non) aNil)))) (gTup2 (gKey (dKeys ["data", "waits", "state", "at", "number", "left", "gap", "bell", "now"]) 2 (pVar 0)) (gKey (dKeys ["data", "waits", "state", "at", "number", "left", "gap", "bell", "now"]) 7 (pVar 0)))) sNext))) (sIf (ofB (pB (pOp dGt (pVar 4) (pC (.int 0))))) (sAsg (ofP (pTup (aCons (pIf (pB (pOp dEq (pVar 4) (pC (.int 2)))) (pC (.str "refused")) (pC (.str "wrong"))) (aCons (pC .non) aNil)))) (gTup2 (gKey (dKeys ["data", "waits", "state", "at", "number", "left", "gap", "bell", "now"]) 2 (pVar 0)) (gKey (dKeys ["data", "waits", "state", "at", "number", "left", "gap", "bell", "now"]) 7 (pVar 0)))) (sSeq (sAsg (ofP (pTup (aCons (pC (.str "sending")) (aCons (pVar 2) aNil)))) (gTup2 (gKey (dKeys ["data", "waits", "state", "at", "number", "left", "gap", "bell", "now"]) 2 (pVar 0)) (gKey (dKeys ["data", "waits", "state", "at", "number", "left", "gap", "bell", "now"]) 7 (pVar 0)))) (sSeq (sAsg (ofP (pTup (aCons (pIf (pB (pOp dGt (pOp dIx (pVar 1) (pC (.int 1))) (pC (.int 0)))) (pOp dIx (pVar 1) (pC (.int 1))) (pC .non)) (aCons (pCall oMin (aCons (pOp dIx (pVar 1) (pC (.int 2))) (aCons (pC (.int 127)) aNil))) aNil)))) (gTup2 (gKey (dKeys ["data", "waits", "state", "at", "number", "left", "gap", "bell", "now"]) 5 (pVar 0)) (gKey (dKeys ["data", "waits", "state", "at", "number", "left", "gap", "bell", "now"]) 6 (pVar 0)))) (sAsg (tBin dAdd (ofP (pVar 3)) (tCallF (sp__law_sender_on A) (ofL (aCons (pVar 0) (aCons (pVar 2) aNil))))) (gNm 3)))))) (sRet (ofP (pVar 3)))))))
abbrev st__law_called : Stmt := top 28
theorem sc__law_called : FnScope ["sender", "word", "thing", "now", "e"] ["sender", "word", "thing", "now"] (defScope st__law_called) := ⟨rfl, rfl, rfl, by decide +kernel, rfl, by decide +kernel, by decide +kernel⟩
def T__law_called (A : Ad) : LTs := (sTryAs A.M_DeedWrong 4 (sSeq (sIf (ofB (pB (pOp dEq (pVar 1) (pC (.str "get"))))) (sRet (tTupE (tACons (ofP (pC (.str "told"))) (tACons (tMethF A.k_Sender (sp_Sender_get A) (pVar 0) (ofL (aCons (pVar 2) (aCons (pVar 3) aNil)))) (ofL aNil))))) sNext) (sRet (tTupE (tACons (ofP (pC (.str "told"))) (tACons (tIfE (ofB (pB (pOp dEq (pVar 1) (pC (.str "begin"))))) (tMethF A.k_Sender (sp_Sender_begin A) (pVar 0) (ofL (aCons (pVar 3) aNil))) (tMethF A.k_Sender (sp_Sender_go_on A) (pVar 0) (ofL (aCons (pVar 3) aNil)))) (ofL aNil)))))) (fun a C dd => (sRet (ofP (pTup (aCons (pC (.str "wrong")) (aCons (pXf a C dd (A.xs_DeedWrong) "at" (pVar 4)) aNil)))))))
abbrev st__law_made : Stmt := top 29
theorem sc__law_made : FnScope ["data", "e"] ["data"] (defScope st__law_made) := ⟨rfl, rfl, rfl, by decide +kernel, rfl, by decide +kernel, by decide +kernel⟩
def T__law_made (A : Ad) : LTs := (sTryAs A.M_Wrong 1 (sSeq (sExpr (tMakeF A.k_Sender (sp_Sender_init A) (ofL (aCons (pVar 0) (aCons (pC (.int 1)) aNil))))) (sRet (ofP (pC .non)))) (fun a C dd => (sRet (ofP (pXf a C dd (A.xs_Wrong) "at" (pVar 1))))))
abbrev st__law_flow : Stmt := top 30
theorem sc__law_flow : FnScope ["draws", "word", "octets"] ["draws"] (defScope st__law_flow) := ⟨rfl, rfl, rfl, by decide +kernel, rfl, by decide +kernel, by decide +kernel⟩
def T__law_flow (A : Ad) : LTs := (sSeq (sAsg (tBin dIx (ofP (pLst (aCons (pC (.int 0)) (aCons (pC (.int 0)) (aCons (pC (.int 0)) (aCons (pC (.int 0)) (aCons (pC (.int 1)) (aCons (pC (.int 1)) (aCons (pC (.int 2)) (aCons (pC (.int 3)) (aCons (pC (.int 15)) aNil))))))))))) (tCallF (sp__law_draw A) (ofL (aCons (pVar 0) (aCons (pC (.int 9)) aNil))))) (gNm 1)) (sSeq (sAsg (tLstE (tACons (ofP (pOp dAdd (pC (.int 48)) (pVar 1))) (tACons (tBin dIx (ofP (pLst (aCons (pC (.int 0)) (aCons (pC (.int 1)) (aCons (pC (.int 2)) (aCons (pC (.int 3)) (aCons (pC (.int 8)) (aCons (pC (.int 255)) aNil)))))))) (tCallF (sp__law_draw A) (ofL (aCons (pVar 0) (aCons (pC (.int 6)) aNil))))) (tACons (tBin dIx (ofP (pLst (aCons (pC (.int 0)) (aCons (pC (.int 0)) (aCons (pC (.int 1)) (aCons (pC (.int 20)) (aCons (pC (.int 127)) (aCons (pC (.int 128)) (aCons (pC (.int 255)) aNil))))))))) (tCallF (sp__law_draw A) (ofL (aCons (pVar 0) (aCons (pC (.int 7)) aNil))))) (ofL aNil))))) (gNm 2)) (sRet (tBin dIx (ofP (pLst (aCons (pVar 2) (aCons (pVar 2) (aCons (pOp dAdd (pVar 2) (pLst (aCons (pC (.int 9)) aNil))) (aCons (pSl (pVar 2) oNone (oSome (pC (.int 2)))) (aCons (pLst (aCons (pC (.int 33)) (aCons (pC (.int 1)) (aCons (pC (.int 2)) aNil)))) (aCons (pLst (aCons (pC (.int 2)) (aCons (pC (.int 5)) (aCons (pC (.int 5)) aNil)))) (aCons (pLst aNil) aNil))))))))) (tCallF (sp__law_draw A) (ofL (aCons (pVar 0) (aCons (pC (.int 7)) aNil))))))))
abbrev st_law : Stmt := top 31
theorem sc_law : FnScope ["script", "draws", "turn", "data", "k", "waits", "given", "sender", "own", "now", "kind", "octets", "told", "due", "back", "word"] ["script"] (defScope st_law) := ⟨rfl, rfl, rfl, by decide +kernel, rfl, by decide +kernel, by decide +kernel⟩
def T_law (A : Ad) : LTs := (sSeq (sAsg (tCallF (sp__law_draws A) (ofL (aCons (pVar 0) aNil))) (gNm 1)) (sSeq (sFor (tRng1 (ofL (aCons (pC (.int 3)) aNil))) (gNm 2) (sSeq (sAsg (tLcE (tRng1 (tACons (tBin dIx (ofP (pLst (aCons (pC (.int 1)) (aCons (pC (.int 7)) (aCons (pC (.int 8)) (aCons (pC (.int 13)) (aCons (pC (.int 14)) (aCons (pC (.int 40)) (aCons (pC (.int 120)) (aCons (pC (.int 200)) aNil)))))))))) (tCallF (sp__law_draw A) (ofL (aCons (pVar 1) (aCons (pC (.int 8)) aNil))))) (ofL aNil))) [4] (G1 4) bYes (pOp dMod (pCall oInt (aCons (pOp dAdd (pOp dMul (pC (.int 7)) (pVar 4)) (pVar 2)) aNil)) (pC (.int 256)))) (gNm 3)) (sSeq (sAsg (tCallF (sp__law_draw A) (ofL (aCons (pVar 1) (aCons (pC (.int 4)) aNil)))) (gNm 5)) (sSeq (sAsg (tListM (pVar 3)) (gNm 6)) (sSeq (sPar 7 8 (tACons (tMakeF A.k_Sender (sp_Sender_init A) (ofL (aCons (pVar 6) (aCons (pVar 5) aNil)))) (tACons (tCallF (sp__law_new_sender A) (ofL (aCons (pVar 3) (aCons (pVar 5) aNil)))) (ofL aNil)))) (sSeq (sExpr (tApp (pVar 6) (ofL (aCons (pC (.int 5)) aNil)))) (sSeq (sIf (tNotB (tB1 (tCallF (pureSp (g__law_same 8)) (tACons (tLstE (tACons (ofP (pUn (dFld A.k_Sender 2) (pVar 7))) (tACons (tMethF A.k_Sender (sp_Sender_due A) (pVar 7) (ofL aNil)) (ofL aNil)))) (tACons (ofP (pLst (aCons (pC (.str "new")) (aCons (pC .non) aNil)))) (ofL aNil)))))) (sRet (ofP (pC (.bl false)))) sNext) (sSeq (sAsg (tCallF (sp__law_draw A) (ofL (aCons (pVar 1) (aCons (pC (.int 50)) aNil)))) (gNm 9)) (sSeq (sIf (tNotB (tB1 (tCallF (pureSp (g__law_same 8)) (tACons (tCallF (sp__law_called A) (ofL (aCons (pVar 7) (aCons (pC (.str "begin")) (aCons (pC .non) (aCons (pVar 9) aNil)))))) (tACons (tTupE (tACons (ofP (pC (.str "told"))) (tACons (tCallF (sp__law_sender_begins A) (ofL (aCons (pVar 8) (aCons (pVar 9) aNil)))) (ofL aNil)))) (ofL aNil)))))) (sRet (ofP (pC (.bl false)))) sNext) (sFor (tRng1 (tACons (tBin dAdd (ofP (pC (.int 10))) (tCallF (sp__law_draw A) (ofL (aCons (pVar 1) (aCons (pC (.int 31)) aNil))))) (ofL aNil))) (gNm 4) (sSeq (sAsg (tBin dAdd (ofP (pUn (dAt (dKeys ["data", "waits", "state", "at", "number", "left", "gap", "bell", "now"]) 8) (pVar 8))) (tBin dIx (ofP (pLst (aCons (pC (.int 0)) (aCons (pC (.int 0)) (aCons (pC (.int 1)) (aCons (pC (.int 20)) (aCons (pC (.int 127)) (aCons (pC (.int 500)) (aCons (pC (.int 999)) (aCons (pC (.int 1000)) (aCons (pC (.int 1001)) aNil))))))))))) (tCallF (sp__law_draw A) (ofL (aCons (pVar 1) (aCons (pC (.int 9)) aNil)))))) (gNm 9)) (sSeq (sAsg (tCallF (sp__law_draw A) (ofL (aCons (pVar 1) (aCons (pC (.int 8)) aNil)))) (gNm 10)) (sSeq (sIf (ofB (pB (pOp dLt (pVar 10) (pC (.int 5))))) (sSeq (sAsg (tCallF (sp__law_flow A) (ofL (aCons (pVar 1) aNil))) (gNm 11)) (sPar 12 13 (tACons (tCallF (sp__law_called A) (ofL (aCons (pVar 7) (aCons (pC (.str "get")) (aCons (pVar 11) (aCons (pVar 9) aNil)))))) (tACons (tTupE (tACons (ofP (pC (.str "told"))) (tACons (tCallF (sp__law_sender_gets A) (ofL (aCons (pVar 8) (aCons (pVar 11) (aCons (pVar 9) aNil))))) (ofL aNil)))) (ofL aNil))))) (sIf (ofB (pB (pOp dLt (pVar 10) (pC (.int 7))))) (sPar 12 13 (tACons (tCallF (sp__law_called A) (ofL (aCons (pVar 7) (aCons (pC (.str "go")) (aCons (pC .non) (aCons (pVar 9) aNil)))))) (tACons (tTupE (tACons (ofP (pC (.str "told"))) (tACons (tCallF (sp__law_sender_on A) (ofL (aCons (pVar 8) (aCons (pVar 9) aNil)))) (ofL aNil)))) (ofL aNil)))) (sSeq (sAsg (ofP (pOp dSub (pUn (dAt (dKeys ["data", "waits", "state", "at", "number", "left", "gap", "bell", "now"]) 8) (pVar 8)) (pC (.int 1)))) (gNm 14)) (sSeq (sAsg (tBin dIx (ofP (pLst (aCons (pC (.str "get")) (aCons (pC (.str "go")) (aCons (pC (.str "begin")) aNil))))) (tCallF (sp__law_draw A) (ofL (aCons (pVar 1) (aCons (pC (.int 3)) aNil))))) (gNm 15)) (sSeq (sAsg (tCallF (sp__law_called A) (ofL (aCons (pVar 7) (aCons (pVar 15) (aCons (pLst (aCons (pC (.int 48)) (aCons (pC (.int 0)) (aCons (pC (.int 0)) aNil)))) (aCons (pIf (pB (pOp dNe (pVar 15) (pC (.str "begin")))) (pVar 14) (pUn (dAt (dKeys ["data", "waits", "state", "at", "number", "left", "gap", "bell", "now"]) 8) (pVar 8))) aNil)))))) (gNm 12)) (sAsg (ofP (pTup (aCons (pC (.str "wrong")) (aCons (pIf (pB (pOp dNe (pVar 15) (pC (.str "begin")))) (pVar 14) (pC (.str "begin"))) aNil)))) (gNm 13))))))) (sIf (tNotB (tB1 (tCallF (pureSp (g__law_same 8)) (tACons (tLstE (tACons (ofP (pVar 12)) (tACons (ofP (pUn (dFld A.k_Sender 2) (pVar 7))) (tACons (tMethF A.k_Sender (sp_Sender_due A) (pVar 7) (ofL aNil)) (ofL aNil))))) (tACons (ofP (pLst (aCons (pVar 13) (aCons (pUn (dAt (dKeys ["data", "waits", "state", "at", "number", "left", "gap", "bell", "now"]) 2) (pVar 8)) (aCons (pUn (dAt (dKeys ["data", "waits", "state", "at", "number", "left", "gap", "bell", "now"]) 7) (pVar 8)) aNil))))) (ofL aNil)))))) (sRet (ofP (pC (.bl false)))) sNext)))))))))))))) (sRet (tCallF (pureSp (g__law_same 8)) (tACons (tLstE (tACons (tCallF (sp__law_made A) (ofL (aCons (pLst aNil) aNil))) (tACons (tCallF (sp__law_made A) (ofL (aCons (pOp dMul (pLst (aCons (pC (.int 0)) aNil)) (pC (.int 4096))) aNil))) (tACons (tCallF (sp__law_made A) (ofL (aCons (pOp dMul (pLst (aCons (pC (.int 0)) aNil)) (pC (.int 4095))) aNil))) (ofL aNil))))) (tACons (ofP (pLst (aCons (pC (.int 0)) (aCons (pC (.int 4096)) (aCons (pC .non) aNil))))) (ofL aNil)))))))
structure Txt (K : PySem.W.Frag) (mg : Str → Option Value) (A : Ad) : Prop where
  g_is_number : mg "is_number" = some (.ref A.f_is_number)
  g_is_octets : mg "is_octets" = some (.ref A.f_is_octets)
  g_single : mg "single" = some (.ref A.f_single)
  g_first : mg "first" = some (.ref A.f_first)
  g_next_part : mg "next_part" = some (.ref A.f_next_part)
  g_told_by : mg "told_by" = some (.ref A.f_told_by)
  g_gap_of : mg "gap_of" = some (.ref A.f_gap_of)
  g__law_draws : mg "_law_draws" = some (.ref A.f__law_draws)
  g__law_draw : mg "_law_draw" = some (.ref A.f__law_draw)
  g__law_same : mg "_law_same" = some (.ref A.f__law_same)
  g__law_new_sender : mg "_law_new_sender" = some (.ref A.f__law_new_sender)
  g__law_sender_next : mg "_law_sender_next" = some (.ref A.f__law_sender_next)
  g__law_sender_on : mg "_law_sender_on" = some (.ref A.f__law_sender_on)
  g__law_sender_begins : mg "_law_sender_begins" = some (.ref A.f__law_sender_begins)
  g__law_sender_gets : mg "_law_sender_gets" = some (.ref A.f__law_sender_gets)
  g__law_called : mg "_law_called" = some (.ref A.f__law_called)
  g__law_made : mg "_law_made" = some (.ref A.f__law_made)
  g__law_flow : mg "_law_flow" = some (.ref A.f__law_flow)
  g_law : mg "law" = some (.ref A.f_law)
  g_Clock : mg "Clock" = some (.ref A.Clock)
  k_Clock : KOk K A.k_Clock
  m_Clock : Mk K A.Clock A.f_Clock_init
  g_Sender : mg "Sender" = some (.ref A.Sender)
  k_Sender : KOk K A.k_Sender
  m_Sender : Mk K A.Sender A.f_Sender_init
  h_Clock_pass_to : Meth K A.Clock "pass_to" A.f_Clock_pass_to
  h_Sender_due : Meth K A.Sender "due" A.f_Sender_due
  h_Sender_end : Meth K A.Sender "end" A.f_Sender_end
  h_Sender_begin : Meth K A.Sender "begin" A.f_Sender_begin
  h_Sender_go_on : Meth K A.Sender "go_on" A.f_Sender_go_on
  h_Sender_send_next : Meth K A.Sender "send_next" A.f_Sender_send_next
  h_Sender_get : Meth K A.Sender "get" A.f_Sender_get
  g_DeedWrong : mg "DeedWrong" = some (.ref A.DeedWrong)
  M_DeedWrong : ∀ C b, A.M_DeedWrong C = some b → PySem.W.exmOne K (.ref C) (.ref A.DeedWrong) = some b
  xf_DeedWrong_at : ∀ C ∈ A.xs_DeedWrong, XfC K C ∧ PySem.W.findIn K (.ref C) "at" = some none
  g_Wrong : mg "Wrong" = some (.ref A.Wrong)
  M_Wrong : ∀ C b, A.M_Wrong C = some b → PySem.W.exmOne K (.ref C) (.ref A.Wrong) = some b
  xf_Wrong_at : ∀ C ∈ A.xs_Wrong, XfC K C ∧ PySem.W.findIn K (.ref C) "at" = some none
  z_all : mg "all" = none
  z_bool : mg "bool" = none
  z_dict : mg "dict" = none
  z_int : mg "int" = none
  z_isinstance : mg "isinstance" = none
  z_len : mg "len" = none
  z_list : mg "list" = none
  z_min : mg "min" = none
  z_range : mg "range" = none
  z_str : mg "str" = none
  z_tuple : mg "tuple" = none
  i_LATE : ∃ t, mg "LATE" = some (.int 1000 t)
  i_LONGEST_GAP : ∃ t, mg "LONGEST_GAP" = some (.int 127 t)
  i_MOST : ∃ t, mg "MOST" = some (.int 4095 t)
end K47
set_option maxRecDepth 100000
set_option maxHeartbeats 4000000
namespace K47
open PySem PySem.Spec PyProof.Rows L2 Ax
theorem DrAt.fr {S S' : Sto} {a b : Addr} (h : DrAt S a) (f : Fr S S' b) (ne : a ≠ b) : DrAt S' a := by
  obtain ⟨c, i, j, s, h1, h2⟩ := h
  exact ⟨c, i, j, s, (f a ne).trans h1, h2⟩
theorem len__law_draws (A : Ad) : ∀ ds S Φ Ψ, sp__law_draws A ds S Φ Ψ → ds.length = 1 := fun ds S Φ Ψ ⟨_, e, _⟩ => by rw [e]; rfl
theorem law__law_draws (A : Ad) : ∀ ds S Φ Ψ, sp__law_draws A ds S Φ Ψ → T__law_draws A (LE0 Φ Ψ) (startD 0 ds) S := by
  rintro ds S Φ Ψ ⟨ns, rfl, hl, k⟩
  simp [sSeq, sIf, sAsg, sRet, sExpr, sNext, sPar, sRaise, sRetN, sDead, ofP, ofB, ofL, pVar, pC, pOp, pUn, pB, pT, pTup, pLst, aNil, aCons, bAnd_eq, bOr_eq, bNot, pIf_eq, pCall, pFn, oLen,  dAt, dFld, dDic, oIsN, oNotN, isN, asB_bl, dI, dI2, gNm, gFld, gTup2, gKey, gIx, tTupE, tLstE, tLstM, tACons, tCallF, tMethF, tMakeF, tBin, tListM, tApp, tDic, tAll, tIfE, tAndB, tOrB, tTst, tB1, tNotB, setF, startD, oList, vAnd_eq, vOr_eq, vNot, dTru, tRng1, oAll, tUnE, tDead, bDead, sFldU, sNmU, pSl, oSome, oNone, oMin, oMax, asI, pCh_eq, cutD_mid, cutD_to, cutD_from, band15, band255, oInt_int,
 dLst_lst, dTup_tup, dLen_lst, dLen_tup, dSeq_lst, dSeq_tup, dSeq_scr, dIx_lst, dIx_tup, at0, at1, at2, at3, at4, at5, at6, at7, dEq_int, dEq_str, dEq_bl, dEq_nn, dEq_ni, dEq_in, dEq_ns, dEq_sn, dEq_is, dEq_si, dNe_int, dNe_str, dNe_ni, dNe_in, dAdd_int,
 isi_bool_non, isi_bool_bl, isi_bool_int, isi_bool_str, isi_bool_lst, isi_bool_tup, isi_bool_dic, isi_int_non, isi_int_bl, isi_int_int, isi_int_str, isi_int_lst, isi_int_tup, isi_int_dic, isi_str_non, isi_str_bl, isi_str_int, isi_str_str, isi_str_lst, isi_str_tup, isi_str_dic, isi_list_non, isi_list_bl, isi_list_int, isi_list_str, isi_list_lst, isi_list_tup, isi_list_dic, isi_tuple_non, isi_tuple_bl, isi_tuple_int, isi_tuple_str, isi_tuple_lst, isi_tuple_tup, isi_tuple_dic, isi_dict_non, isi_dict_bl, isi_dict_int, isi_dict_str, isi_dict_lst, isi_dict_tup, isi_dict_dic,
 List.map_cons, List.map_nil, List.replicate, List.cons_append, List.nil_append, List.append_nil, List.getElem?_cons_zero, List.getElem?_cons_succ, List.getElem?_nil, List.set_cons_zero, List.set_cons_succ, List.set_nil, List.length_cons, List.length_nil, Option.bind_some, Option.bind_none, Option.map_some, Option.map_none, Option.some.injEq, List.cons.injEq, and_true, true_and, and_assoc, exists_eq_left, exists_eq_left', exists_eq_right, exists_eq_right', exists_and_left, exists_const, if_true, if_false, Bool.false_eq_true, reduceCtorEq, put_same, put_put, Dt.int.injEq, Dt.bl.injEq, Dt.adr.injEq, Dt.tup.injEq, Dt.lst.injEq, Dt.str.injEq, decide_eq_true_eq, Bool.not_true, Bool.not_false, T__law_draws]
  exact fun p hp => k p _ hp ⟨ns, 0, 0, 1, put_same, by omega, by omega, hl⟩ fr_put
theorem len__law_draw (A : Ad) : ∀ ds S Φ Ψ, sp__law_draw A ds S Φ Ψ → ds.length = 2 := fun ds S Φ Ψ ⟨_, _, e, _⟩ => by rw [e]; rfl
theorem law__law_draw (A : Ad) : ∀ ds S Φ Ψ, sp__law_draw A ds S Φ Ψ → T__law_draw A (LE0 Φ Ψ) (startD 2 ds) S := by
  rintro ds S Φ Ψ ⟨a, n, rfl, ⟨cells, i, j, s, hS, hi, hj, hl⟩, n0, n1, k⟩
  unfold T__law_draw
  refine seqI (fun ds' S' => (∃ c e, ds' = [some (.adr a), some (.int n), c, e]) ∧ ∃ i j s, S' a = some (.lst [.lst (cells.map Dt.int), .int i, .int j, .int s]) ∧ 0 ≤ i ∧ 0 ≤ j ∧ Fr S S' a) ?_ ?_
  · rintro ds' S' ⟨⟨c, e, rfl⟩, i, j, s, hS, hi, hj, hf⟩
    have e0 : ∀ i, dIx S' (.adr a) (.int i) = _ := fun i => dIx_adr hS
    by_cases c1 : 0 < j
    · simp [sSeq, sIf, sAsg, sRet, sExpr, sNext, sPar, sRaise, sRetN, sDead, ofP, ofB, ofL, pVar, pC, pOp, pUn, pB, pT, pTup, pLst, aNil, aCons, bAnd_eq, bOr_eq, bNot, pIf_eq, pCall, pFn, oLen,  dAt, dFld, dDic, oIsN, oNotN, isN, asB_bl, dI, dI2, gNm, gFld, gTup2, gKey, gIx, tTupE, tLstE, tLstM, tACons, tCallF, tMethF, tMakeF, tBin, tListM, tApp, tDic, tAll, tIfE, tAndB, tOrB, tTst, tB1, tNotB, setF, startD, oList, vAnd_eq, vOr_eq, vNot, dTru, tRng1, oAll, tUnE, tDead, bDead, sFldU, sNmU, pSl, oSome, oNone, oMin, oMax, asI, pCh_eq, cutD_mid, cutD_to, cutD_from, band15, band255, oInt_int,
 dLst_lst, dTup_tup, dLen_lst, dLen_tup, dSeq_lst, dSeq_tup, dSeq_scr, dIx_lst, dIx_tup, at0, at1, at2, at3, at4, at5, at6, at7, dEq_int, dEq_str, dEq_bl, dEq_nn, dEq_ni, dEq_in, dEq_ns, dEq_sn, dEq_is, dEq_si, dNe_int, dNe_str, dNe_ni, dNe_in, dAdd_int,
 isi_bool_non, isi_bool_bl, isi_bool_int, isi_bool_str, isi_bool_lst, isi_bool_tup, isi_bool_dic, isi_int_non, isi_int_bl, isi_int_int, isi_int_str, isi_int_lst, isi_int_tup, isi_int_dic, isi_str_non, isi_str_bl, isi_str_int, isi_str_str, isi_str_lst, isi_str_tup, isi_str_dic, isi_list_non, isi_list_bl, isi_list_int, isi_list_str, isi_list_lst, isi_list_tup, isi_list_dic, isi_tuple_non, isi_tuple_bl, isi_tuple_int, isi_tuple_str, isi_tuple_lst, isi_tuple_tup, isi_tuple_dic, isi_dict_non, isi_dict_bl, isi_dict_int, isi_dict_str, isi_dict_lst, isi_dict_tup, isi_dict_dic,
 List.map_cons, List.map_nil, List.replicate, List.cons_append, List.nil_append, List.append_nil, List.getElem?_cons_zero, List.getElem?_cons_succ, List.getElem?_nil, List.set_cons_zero, List.set_cons_succ, List.set_nil, List.length_cons, List.length_nil, Option.bind_some, Option.bind_none, Option.map_some, Option.map_none, Option.some.injEq, List.cons.injEq, and_true, true_and, and_assoc, exists_eq_left, exists_eq_left', exists_eq_right, exists_eq_right', exists_and_left, exists_const, if_true, if_false, Bool.false_eq_true, reduceCtorEq, put_same, put_put, Dt.int.injEq, Dt.bl.injEq, Dt.adr.injEq, Dt.tup.injEq, Dt.lst.injEq, Dt.str.injEq, decide_eq_true_eq, Bool.not_true, Bool.not_false, e0, c1, n0, n1, hS, ixN]
      exact k _ _ (Int.emod_nonneg _ (by omega)) (Int.emod_lt_of_pos _ n0) ⟨cells, i, j / n, s, put_same, hi, Int.ediv_nonneg hj (by omega), hl⟩ fun b hb => by rw [put_ne hb]; exact hf b hb
    · have e2 : ∀ (x : List Dt) i, dIx (S'.put a (.lst x)) (.adr a) (.int i) = atI x i := fun x i => dIx_adr put_same
      simp [sSeq, sIf, sAsg, sRet, sExpr, sNext, sPar, sRaise, sRetN, sDead, ofP, ofB, ofL, pVar, pC, pOp, pUn, pB, pT, pTup, pLst, aNil, aCons, bAnd_eq, bOr_eq, bNot, pIf_eq, pCall, pFn, oLen,  dAt, dFld, dDic, oIsN, oNotN, isN, asB_bl, dI, dI2, gNm, gFld, gTup2, gKey, gIx, tTupE, tLstE, tLstM, tACons, tCallF, tMethF, tMakeF, tBin, tListM, tApp, tDic, tAll, tIfE, tAndB, tOrB, tTst, tB1, tNotB, setF, startD, oList, vAnd_eq, vOr_eq, vNot, dTru, tRng1, oAll, tUnE, tDead, bDead, sFldU, sNmU, pSl, oSome, oNone, oMin, oMax, asI, pCh_eq, cutD_mid, cutD_to, cutD_from, band15, band255, oInt_int,
 dLst_lst, dTup_tup, dLen_lst, dLen_tup, dSeq_lst, dSeq_tup, dSeq_scr, dIx_lst, dIx_tup, at0, at1, at2, at3, at4, at5, at6, at7, dEq_int, dEq_str, dEq_bl, dEq_nn, dEq_ni, dEq_in, dEq_ns, dEq_sn, dEq_is, dEq_si, dNe_int, dNe_str, dNe_ni, dNe_in, dAdd_int,
 isi_bool_non, isi_bool_bl, isi_bool_int, isi_bool_str, isi_bool_lst, isi_bool_tup, isi_bool_dic, isi_int_non, isi_int_bl, isi_int_int, isi_int_str, isi_int_lst, isi_int_tup, isi_int_dic, isi_str_non, isi_str_bl, isi_str_int, isi_str_str, isi_str_lst, isi_str_tup, isi_str_dic, isi_list_non, isi_list_bl, isi_list_int, isi_list_str, isi_list_lst, isi_list_tup, isi_list_dic, isi_tuple_non, isi_tuple_bl, isi_tuple_int, isi_tuple_str, isi_tuple_lst, isi_tuple_tup, isi_tuple_dic, isi_dict_non, isi_dict_bl, isi_dict_int, isi_dict_str, isi_dict_lst, isi_dict_tup, isi_dict_dic,
 List.map_cons, List.map_nil, List.replicate, List.cons_append, List.nil_append, List.append_nil, List.getElem?_cons_zero, List.getElem?_cons_succ, List.getElem?_nil, List.set_cons_zero, List.set_cons_succ, List.set_nil, List.length_cons, List.length_nil, Option.bind_some, Option.bind_none, Option.map_some, Option.map_none, Option.some.injEq, List.cons.injEq, and_true, true_and, and_assoc, exists_eq_left, exists_eq_left', exists_eq_right, exists_eq_right', exists_and_left, exists_const, if_true, if_false, Bool.false_eq_true, reduceCtorEq, put_same, put_put, Dt.int.injEq, Dt.bl.injEq, Dt.adr.injEq, Dt.tup.injEq, Dt.lst.injEq, Dt.str.injEq, decide_eq_true_eq, Bool.not_true, Bool.not_false, e0, e2, c1, n0, n1, hS, ixN, dMul_r]
      exact k _ _ (Int.emod_nonneg _ (by omega)) (Int.emod_lt_of_pos _ n0) ⟨cells, i, j, _, put_same, hi, hj, hl⟩ fun b hb => by rw [put_ne hb]; exact hf b hb
  · intro Q hQ
    have e0 : ∀ i, dIx S (.adr a) (.int i) = _ := fun i => dIx_adr hS
    by_cases c1 : j = 0 ∧ i < cells.length
    · obtain ⟨c1, c2⟩ := c1
      have c3 : i.toNat < cells.length := by omega
      have e1 : atI (cells.map Dt.int) i = some (.int cells[i.toNat]) := atI_of hi (by simp [c3])
      have e2 : ∀ (x : List Dt) i, dIx (S.put a (.lst x)) (.adr a) (.int i) = atI x i := fun x i => dIx_adr put_same
      simp [sSeq, sIf, sAsg, sRet, sExpr, sNext, sPar, sRaise, sRetN, sDead, ofP, ofB, ofL, pVar, pC, pOp, pUn, pB, pT, pTup, pLst, aNil, aCons, bAnd_eq, bOr_eq, bNot, pIf_eq, pCall, pFn, oLen,  dAt, dFld, dDic, oIsN, oNotN, isN, asB_bl, dI, dI2, gNm, gFld, gTup2, gKey, gIx, tTupE, tLstE, tLstM, tACons, tCallF, tMethF, tMakeF, tBin, tListM, tApp, tDic, tAll, tIfE, tAndB, tOrB, tTst, tB1, tNotB, setF, startD, oList, vAnd_eq, vOr_eq, vNot, dTru, tRng1, oAll, tUnE, tDead, bDead, sFldU, sNmU, pSl, oSome, oNone, oMin, oMax, asI, pCh_eq, cutD_mid, cutD_to, cutD_from, band15, band255, oInt_int,
 dLst_lst, dTup_tup, dLen_lst, dLen_tup, dSeq_lst, dSeq_tup, dSeq_scr, dIx_lst, dIx_tup, at0, at1, at2, at3, at4, at5, at6, at7, dEq_int, dEq_str, dEq_bl, dEq_nn, dEq_ni, dEq_in, dEq_ns, dEq_sn, dEq_is, dEq_si, dNe_int, dNe_str, dNe_ni, dNe_in, dAdd_int,
 isi_bool_non, isi_bool_bl, isi_bool_int, isi_bool_str, isi_bool_lst, isi_bool_tup, isi_bool_dic, isi_int_non, isi_int_bl, isi_int_int, isi_int_str, isi_int_lst, isi_int_tup, isi_int_dic, isi_str_non, isi_str_bl, isi_str_int, isi_str_str, isi_str_lst, isi_str_tup, isi_str_dic, isi_list_non, isi_list_bl, isi_list_int, isi_list_str, isi_list_lst, isi_list_tup, isi_list_dic, isi_tuple_non, isi_tuple_bl, isi_tuple_int, isi_tuple_str, isi_tuple_lst, isi_tuple_tup, isi_tuple_dic, isi_dict_non, isi_dict_bl, isi_dict_int, isi_dict_str, isi_dict_lst, isi_dict_tup, isi_dict_dic,
 List.map_cons, List.map_nil, List.replicate, List.cons_append, List.nil_append, List.append_nil, List.getElem?_cons_zero, List.getElem?_cons_succ, List.getElem?_nil, List.set_cons_zero, List.set_cons_succ, List.set_nil, List.length_cons, List.length_nil, Option.bind_some, Option.bind_none, Option.map_some, Option.map_none, Option.some.injEq, List.cons.injEq, and_true, true_and, and_assoc, exists_eq_left, exists_eq_left', exists_eq_right, exists_eq_right', exists_and_left, exists_const, if_true, if_false, Bool.false_eq_true, reduceCtorEq, put_same, put_put, Dt.int.injEq, Dt.bl.injEq, Dt.adr.injEq, Dt.tup.injEq, Dt.lst.injEq, Dt.str.injEq, decide_eq_true_eq, Bool.not_true, Bool.not_false, e0, e1, e2, c1, c2, hS, ixN, dMul_r]
      generalize cells[i.toNat] = z
      by_cases cz : z < 1000000000000000000
      · exact .inl ⟨cz, hQ _ _ ⟨⟨_, _, rfl⟩, i + 1, 0, _, put_same, by omega, by omega, fr_put⟩⟩
      · exact .inr ⟨by omega, hQ _ _ ⟨⟨_, _, rfl⟩, i + 1, z, _, put_same, by omega, by omega, fr_put⟩⟩
    · have q := hQ [some (.adr a), some (.int n), none, none] S ⟨⟨_, _, rfl⟩, i, j, s, hS, hi, hj, fun _ _ => rfl⟩
      by_cases c2 : j = 0
      · have c3 : ¬ i < cells.length := fun z => c1 ⟨c2, z⟩
        simp [sSeq, sIf, sAsg, sRet, sExpr, sNext, sPar, sRaise, sRetN, sDead, ofP, ofB, ofL, pVar, pC, pOp, pUn, pB, pT, pTup, pLst, aNil, aCons, bAnd_eq, bOr_eq, bNot, pIf_eq, pCall, pFn, oLen,  dAt, dFld, dDic, oIsN, oNotN, isN, asB_bl, dI, dI2, gNm, gFld, gTup2, gKey, gIx, tTupE, tLstE, tLstM, tACons, tCallF, tMethF, tMakeF, tBin, tListM, tApp, tDic, tAll, tIfE, tAndB, tOrB, tTst, tB1, tNotB, setF, startD, oList, vAnd_eq, vOr_eq, vNot, dTru, tRng1, oAll, tUnE, tDead, bDead, sFldU, sNmU, pSl, oSome, oNone, oMin, oMax, asI, pCh_eq, cutD_mid, cutD_to, cutD_from, band15, band255, oInt_int,
 dLst_lst, dTup_tup, dLen_lst, dLen_tup, dSeq_lst, dSeq_tup, dSeq_scr, dIx_lst, dIx_tup, at0, at1, at2, at3, at4, at5, at6, at7, dEq_int, dEq_str, dEq_bl, dEq_nn, dEq_ni, dEq_in, dEq_ns, dEq_sn, dEq_is, dEq_si, dNe_int, dNe_str, dNe_ni, dNe_in, dAdd_int,
 isi_bool_non, isi_bool_bl, isi_bool_int, isi_bool_str, isi_bool_lst, isi_bool_tup, isi_bool_dic, isi_int_non, isi_int_bl, isi_int_int, isi_int_str, isi_int_lst, isi_int_tup, isi_int_dic, isi_str_non, isi_str_bl, isi_str_int, isi_str_str, isi_str_lst, isi_str_tup, isi_str_dic, isi_list_non, isi_list_bl, isi_list_int, isi_list_str, isi_list_lst, isi_list_tup, isi_list_dic, isi_tuple_non, isi_tuple_bl, isi_tuple_int, isi_tuple_str, isi_tuple_lst, isi_tuple_tup, isi_tuple_dic, isi_dict_non, isi_dict_bl, isi_dict_int, isi_dict_str, isi_dict_lst, isi_dict_tup, isi_dict_dic,
 List.map_cons, List.map_nil, List.replicate, List.cons_append, List.nil_append, List.append_nil, List.getElem?_cons_zero, List.getElem?_cons_succ, List.getElem?_nil, List.set_cons_zero, List.set_cons_succ, List.set_nil, List.length_cons, List.length_nil, Option.bind_some, Option.bind_none, Option.map_some, Option.map_none, Option.some.injEq, List.cons.injEq, and_true, true_and, and_assoc, exists_eq_left, exists_eq_left', exists_eq_right, exists_eq_right', exists_and_left, exists_const, if_true, if_false, Bool.false_eq_true, reduceCtorEq, put_same, put_put, Dt.int.injEq, Dt.bl.injEq, Dt.adr.injEq, Dt.tup.injEq, Dt.lst.injEq, Dt.str.injEq, decide_eq_true_eq, Bool.not_true, Bool.not_false, e0, c2, c3]
        exact q
      · simp [sSeq, sIf, sAsg, sRet, sExpr, sNext, sPar, sRaise, sRetN, sDead, ofP, ofB, ofL, pVar, pC, pOp, pUn, pB, pT, pTup, pLst, aNil, aCons, bAnd_eq, bOr_eq, bNot, pIf_eq, pCall, pFn, oLen,  dAt, dFld, dDic, oIsN, oNotN, isN, asB_bl, dI, dI2, gNm, gFld, gTup2, gKey, gIx, tTupE, tLstE, tLstM, tACons, tCallF, tMethF, tMakeF, tBin, tListM, tApp, tDic, tAll, tIfE, tAndB, tOrB, tTst, tB1, tNotB, setF, startD, oList, vAnd_eq, vOr_eq, vNot, dTru, tRng1, oAll, tUnE, tDead, bDead, sFldU, sNmU, pSl, oSome, oNone, oMin, oMax, asI, pCh_eq, cutD_mid, cutD_to, cutD_from, band15, band255, oInt_int,
 dLst_lst, dTup_tup, dLen_lst, dLen_tup, dSeq_lst, dSeq_tup, dSeq_scr, dIx_lst, dIx_tup, at0, at1, at2, at3, at4, at5, at6, at7, dEq_int, dEq_str, dEq_bl, dEq_nn, dEq_ni, dEq_in, dEq_ns, dEq_sn, dEq_is, dEq_si, dNe_int, dNe_str, dNe_ni, dNe_in, dAdd_int,
 isi_bool_non, isi_bool_bl, isi_bool_int, isi_bool_str, isi_bool_lst, isi_bool_tup, isi_bool_dic, isi_int_non, isi_int_bl, isi_int_int, isi_int_str, isi_int_lst, isi_int_tup, isi_int_dic, isi_str_non, isi_str_bl, isi_str_int, isi_str_str, isi_str_lst, isi_str_tup, isi_str_dic, isi_list_non, isi_list_bl, isi_list_int, isi_list_str, isi_list_lst, isi_list_tup, isi_list_dic, isi_tuple_non, isi_tuple_bl, isi_tuple_int, isi_tuple_str, isi_tuple_lst, isi_tuple_tup, isi_tuple_dic, isi_dict_non, isi_dict_bl, isi_dict_int, isi_dict_str, isi_dict_lst, isi_dict_tup, isi_dict_dic,
 List.map_cons, List.map_nil, List.replicate, List.cons_append, List.nil_append, List.append_nil, List.getElem?_cons_zero, List.getElem?_cons_succ, List.getElem?_nil, List.set_cons_zero, List.set_cons_succ, List.set_nil, List.length_cons, List.length_nil, Option.bind_some, Option.bind_none, Option.map_some, Option.map_none, Option.some.injEq, List.cons.injEq, and_true, true_and, and_assoc, exists_eq_left, exists_eq_left', exists_eq_right, exists_eq_right', exists_and_left, exists_const, if_true, if_false, Bool.false_eq_true, reduceCtorEq, put_same, put_put, Dt.int.injEq, Dt.bl.injEq, Dt.adr.injEq, Dt.tup.injEq, Dt.lst.injEq, Dt.str.injEq, decide_eq_true_eq, Bool.not_true, Bool.not_false, e0, c2]
        exact q
theorem look_at (x d : Dt) : List.lookup ("at" : Str) ([("name", x), ("at", d)] : List (Str × Dt)) = some d := by
  have e : (("at" : Str) == "name") = false := by decide +kernel
  have e2 : (("at" : Str) == "at") = true := by decide +kernel
  simp [List.lookup, e, e2]
theorem no_same0 {ds : List Dt} {S : Sto} {Φ : Kt} {Ψ : Xt} (h : pureSp (g__law_same 0) ds S Φ Ψ) : False := by
  obtain ⟨d, h, _⟩ := h
  unfold g__law_same at h
  split at h
  · rw [sm] at h
    split at h
    · rename_i h0
      exact Bool.noConfusion h0
    · cases h
  · cases h
theorem g_same {n : Nat} {xs : List Dt} {S : Sto} {d : Dt} (h : g__law_same n xs S = some d) : ∃ x y, xs = [x, y] ∧ sm S n x y = true ∧ d = .bl true := by
  unfold g__law_same at h
  split at h
  · split at h
    · rename_i h1
      cases h
      exact ⟨_, _, rfl, h1, rfl⟩
    · cases h
  · cases h
theorem len__law_same {n : Nat} : ∀ ds S Φ Ψ, pureSp (g__law_same (n + 1)) ds S Φ Ψ → ds.length = 2 := fun ds S Φ Ψ ⟨d, h, _⟩ => by
  obtain ⟨x, y, e, _⟩ := g_same h
  rw [e]
  rfl
theorem sms_len {S : Sto} {n : Nat} : ∀ {xs ys : List Dt}, sms S n xs ys = true → xs.length = ys.length ∧ ∀ i, i < ys.length → ∃ x y, xs[i]? = some x ∧ ys[i]? = some y ∧ sm S n x y = true
  | [], [], _ => ⟨rfl, fun i h => by simp at h⟩
  | [], _ :: _, h => by simp [sms] at h
  | _ :: _, [], h => by simp [sms] at h
  | x :: xs, y :: ys, h => by
    rw [sms, Bool.and_eq_true] at h
    obtain ⟨h1, h2⟩ := sms_len h.2
    refine ⟨by simp [h1], fun i hi => ?_⟩
    cases i with
    | zero => exact ⟨x, y, rfl, rfl, h.1⟩
    | succ i =>
      obtain ⟨a, b, e1, e2, e3⟩ := h2 i (by simpa using hi)
      exact ⟨a, b, by simpa using e1, by simpa using e2, e3⟩
theorem same_run {S : Sto} {n : Nat} {X Y : Dt} {xs ys : List Dt} (hX : ∀ i, dIx S X (.int i) = atI xs i) (hY : ∀ i, dIx S Y (.int i) = atI ys i) (hs : sms S n xs ys = true) (hl : xs.length ≤ 1000) (hL : dLen S Y = some ys.length) {c : Option Dt} :
    pLc (pRng1 (aCons (pCall oLen (aCons (pVar 1) aNil)) aNil)) [4] (G1 4) bYes (pFn (g__law_same n) (aCons (pOp dIx (pVar 0) (pVar 4)) (aCons (pOp dIx (pVar 1) (pVar 4)) aNil))) [some X, some Y, none, c, none] S = some (.lst ((rng 0 ys.length).map fun _ => .bl true)) := by
  obtain ⟨h1, h2⟩ := sms_len hs
  have hr : inR (ys.length : Int) := ⟨by omega, by omega⟩
  simp [sSeq, sIf, sAsg, sRet, sExpr, sNext, sPar, sRaise, sRetN, sDead, ofP, ofB, ofL, pVar, pC, pOp, pUn, pB, pT, pTup, pLst, aNil, aCons, bAnd_eq, bOr_eq, bNot, pIf_eq, pCall, pFn, oLen,  dAt, dFld, dDic, oIsN, oNotN, isN, asB_bl, dI, dI2, gNm, gFld, gTup2, gKey, gIx, tTupE, tLstE, tLstM, tACons, tCallF, tMethF, tMakeF, tBin, tListM, tApp, tDic, tAll, tIfE, tAndB, tOrB, tTst, tB1, tNotB, setF, startD, oList, vAnd_eq, vOr_eq, vNot, dTru, tRng1, oAll, tUnE, tDead, bDead, sFldU, sNmU, pSl, oSome, oNone, oMin, oMax, asI, pCh_eq, cutD_mid, cutD_to, cutD_from, band15, band255, oInt_int,
 dLst_lst, dTup_tup, dLen_lst, dLen_tup, dSeq_lst, dSeq_tup, dSeq_scr, dIx_lst, dIx_tup, at0, at1, at2, at3, at4, at5, at6, at7, dEq_int, dEq_str, dEq_bl, dEq_nn, dEq_ni, dEq_in, dEq_ns, dEq_sn, dEq_is, dEq_si, dNe_int, dNe_str, dNe_ni, dNe_in, dAdd_int,
 isi_bool_non, isi_bool_bl, isi_bool_int, isi_bool_str, isi_bool_lst, isi_bool_tup, isi_bool_dic, isi_int_non, isi_int_bl, isi_int_int, isi_int_str, isi_int_lst, isi_int_tup, isi_int_dic, isi_str_non, isi_str_bl, isi_str_int, isi_str_str, isi_str_lst, isi_str_tup, isi_str_dic, isi_list_non, isi_list_bl, isi_list_int, isi_list_str, isi_list_lst, isi_list_tup, isi_list_dic, isi_tuple_non, isi_tuple_bl, isi_tuple_int, isi_tuple_str, isi_tuple_lst, isi_tuple_tup, isi_tuple_dic, isi_dict_non, isi_dict_bl, isi_dict_int, isi_dict_str, isi_dict_lst, isi_dict_tup, isi_dict_dic,
 List.map_cons, List.map_nil, List.replicate, List.cons_append, List.nil_append, List.append_nil, List.getElem?_cons_zero, List.getElem?_cons_succ, List.getElem?_nil, List.set_cons_zero, List.set_cons_succ, List.set_nil, List.length_cons, List.length_nil, Option.bind_some, Option.bind_none, Option.map_some, Option.map_none, Option.some.injEq, List.cons.injEq, and_true, true_and, and_assoc, exists_eq_left, exists_eq_left', exists_eq_right, exists_eq_right', exists_and_left, exists_const, if_true, if_false, Bool.false_eq_true, reduceCtorEq, put_same, put_put, Dt.int.injEq, Dt.bl.injEq, Dt.adr.injEq, Dt.tup.injEq, Dt.lst.injEq, Dt.str.injEq, decide_eq_true_eq, Bool.not_true, Bool.not_false, pLc, pRng1, hr, hL]
  refine ⟨by simp [rng]; omega, ?_⟩
  refine lc_all fun x hx => ?_
  obtain ⟨i, hi, e⟩ := List.mem_map.mp hx
  have hi : i < ys.length := by simpa using hi
  obtain ⟨u, v, e1, e2, e3⟩ := h2 i hi
  subst e
  refine ⟨rfl, ?_⟩
  simp [sSeq, sIf, sAsg, sRet, sExpr, sNext, sPar, sRaise, sRetN, sDead, ofP, ofB, ofL, pVar, pC, pOp, pUn, pB, pT, pTup, pLst, aNil, aCons, bAnd_eq, bOr_eq, bNot, pIf_eq, pCall, pFn, oLen,  dAt, dFld, dDic, oIsN, oNotN, isN, asB_bl, dI, dI2, gNm, gFld, gTup2, gKey, gIx, tTupE, tLstE, tLstM, tACons, tCallF, tMethF, tMakeF, tBin, tListM, tApp, tDic, tAll, tIfE, tAndB, tOrB, tTst, tB1, tNotB, setF, startD, oList, vAnd_eq, vOr_eq, vNot, dTru, tRng1, oAll, tUnE, tDead, bDead, sFldU, sNmU, pSl, oSome, oNone, oMin, oMax, asI, pCh_eq, cutD_mid, cutD_to, cutD_from, band15, band255, oInt_int,
 dLst_lst, dTup_tup, dLen_lst, dLen_tup, dSeq_lst, dSeq_tup, dSeq_scr, dIx_lst, dIx_tup, at0, at1, at2, at3, at4, at5, at6, at7, dEq_int, dEq_str, dEq_bl, dEq_nn, dEq_ni, dEq_in, dEq_ns, dEq_sn, dEq_is, dEq_si, dNe_int, dNe_str, dNe_ni, dNe_in, dAdd_int,
 isi_bool_non, isi_bool_bl, isi_bool_int, isi_bool_str, isi_bool_lst, isi_bool_tup, isi_bool_dic, isi_int_non, isi_int_bl, isi_int_int, isi_int_str, isi_int_lst, isi_int_tup, isi_int_dic, isi_str_non, isi_str_bl, isi_str_int, isi_str_str, isi_str_lst, isi_str_tup, isi_str_dic, isi_list_non, isi_list_bl, isi_list_int, isi_list_str, isi_list_lst, isi_list_tup, isi_list_dic, isi_tuple_non, isi_tuple_bl, isi_tuple_int, isi_tuple_str, isi_tuple_lst, isi_tuple_tup, isi_tuple_dic, isi_dict_non, isi_dict_bl, isi_dict_int, isi_dict_str, isi_dict_lst, isi_dict_tup, isi_dict_dic,
 List.map_cons, List.map_nil, List.replicate, List.cons_append, List.nil_append, List.append_nil, List.getElem?_cons_zero, List.getElem?_cons_succ, List.getElem?_nil, List.set_cons_zero, List.set_cons_succ, List.set_nil, List.length_cons, List.length_nil, Option.bind_some, Option.bind_none, Option.map_some, Option.map_none, Option.some.injEq, List.cons.injEq, and_true, true_and, and_assoc, exists_eq_left, exists_eq_left', exists_eq_right, exists_eq_right', exists_and_left, exists_const, if_true, if_false, Bool.false_eq_true, reduceCtorEq, put_same, put_put, Dt.int.injEq, Dt.bl.injEq, Dt.adr.injEq, Dt.tup.injEq, Dt.lst.injEq, Dt.str.injEq, decide_eq_true_eq, Bool.not_true, Bool.not_false, G1, wipeD, pFn, hX, hY, Ax.atI_nat, e1, e2, g__law_same, e3]
theorem law__law_same (A : Ad) (n : Nat) : ∀ ds S Φ Ψ, pureSp (g__law_same (n + 1)) ds S Φ Ψ → T__law_same A n (LE0 Φ Ψ) (startD 3 ds) S := by
  rintro ds S Φ Ψ ⟨d, h, k⟩
  obtain ⟨x, y, rfl, hs, rfl⟩ := g_same h
  have k' : Φ (.bl true) S := k
  cases y with
  | non =>
    cases x <;> first
      | (simp [sSeq, sIf, sAsg, sRet, sExpr, sNext, sPar, sRaise, sRetN, sDead, ofP, ofB, ofL, pVar, pC, pOp, pUn, pB, pT, pTup, pLst, aNil, aCons, bAnd_eq, bOr_eq, bNot, pIf_eq, pCall, pFn, oLen,  dAt, dFld, dDic, oIsN, oNotN, isN, asB_bl, dI, dI2, gNm, gFld, gTup2, gKey, gIx, tTupE, tLstE, tLstM, tACons, tCallF, tMethF, tMakeF, tBin, tListM, tApp, tDic, tAll, tIfE, tAndB, tOrB, tTst, tB1, tNotB, setF, startD, oList, vAnd_eq, vOr_eq, vNot, dTru, tRng1, oAll, tUnE, tDead, bDead, sFldU, sNmU, pSl, oSome, oNone, oMin, oMax, asI, pCh_eq, cutD_mid, cutD_to, cutD_from, band15, band255, oInt_int,
 dLst_lst, dTup_tup, dLen_lst, dLen_tup, dSeq_lst, dSeq_tup, dSeq_scr, dIx_lst, dIx_tup, at0, at1, at2, at3, at4, at5, at6, at7, dEq_int, dEq_str, dEq_bl, dEq_nn, dEq_ni, dEq_in, dEq_ns, dEq_sn, dEq_is, dEq_si, dNe_int, dNe_str, dNe_ni, dNe_in, dAdd_int,
 isi_bool_non, isi_bool_bl, isi_bool_int, isi_bool_str, isi_bool_lst, isi_bool_tup, isi_bool_dic, isi_int_non, isi_int_bl, isi_int_int, isi_int_str, isi_int_lst, isi_int_tup, isi_int_dic, isi_str_non, isi_str_bl, isi_str_int, isi_str_str, isi_str_lst, isi_str_tup, isi_str_dic, isi_list_non, isi_list_bl, isi_list_int, isi_list_str, isi_list_lst, isi_list_tup, isi_list_dic, isi_tuple_non, isi_tuple_bl, isi_tuple_int, isi_tuple_str, isi_tuple_lst, isi_tuple_tup, isi_tuple_dic, isi_dict_non, isi_dict_bl, isi_dict_int, isi_dict_str, isi_dict_lst, isi_dict_tup, isi_dict_dic,
 List.map_cons, List.map_nil, List.replicate, List.cons_append, List.nil_append, List.append_nil, List.getElem?_cons_zero, List.getElem?_cons_succ, List.getElem?_nil, List.set_cons_zero, List.set_cons_succ, List.set_nil, List.length_cons, List.length_nil, Option.bind_some, Option.bind_none, Option.map_some, Option.map_none, Option.some.injEq, List.cons.injEq, and_true, true_and, and_assoc, exists_eq_left, exists_eq_left', exists_eq_right, exists_eq_right', exists_and_left, exists_const, if_true, if_false, Bool.false_eq_true, reduceCtorEq, put_same, put_put, Dt.int.injEq, Dt.bl.injEq, Dt.adr.injEq, Dt.tup.injEq, Dt.lst.injEq, Dt.str.injEq, decide_eq_true_eq, Bool.not_true, Bool.not_false, T__law_same]; exact k')
      | (simp [sm] at hs; done)
  | bl b =>
    cases x <;> first
      | (simp [sm] at hs; subst hs; simp [sSeq, sIf, sAsg, sRet, sExpr, sNext, sPar, sRaise, sRetN, sDead, ofP, ofB, ofL, pVar, pC, pOp, pUn, pB, pT, pTup, pLst, aNil, aCons, bAnd_eq, bOr_eq, bNot, pIf_eq, pCall, pFn, oLen,  dAt, dFld, dDic, oIsN, oNotN, isN, asB_bl, dI, dI2, gNm, gFld, gTup2, gKey, gIx, tTupE, tLstE, tLstM, tACons, tCallF, tMethF, tMakeF, tBin, tListM, tApp, tDic, tAll, tIfE, tAndB, tOrB, tTst, tB1, tNotB, setF, startD, oList, vAnd_eq, vOr_eq, vNot, dTru, tRng1, oAll, tUnE, tDead, bDead, sFldU, sNmU, pSl, oSome, oNone, oMin, oMax, asI, pCh_eq, cutD_mid, cutD_to, cutD_from, band15, band255, oInt_int,
 dLst_lst, dTup_tup, dLen_lst, dLen_tup, dSeq_lst, dSeq_tup, dSeq_scr, dIx_lst, dIx_tup, at0, at1, at2, at3, at4, at5, at6, at7, dEq_int, dEq_str, dEq_bl, dEq_nn, dEq_ni, dEq_in, dEq_ns, dEq_sn, dEq_is, dEq_si, dNe_int, dNe_str, dNe_ni, dNe_in, dAdd_int,
 isi_bool_non, isi_bool_bl, isi_bool_int, isi_bool_str, isi_bool_lst, isi_bool_tup, isi_bool_dic, isi_int_non, isi_int_bl, isi_int_int, isi_int_str, isi_int_lst, isi_int_tup, isi_int_dic, isi_str_non, isi_str_bl, isi_str_int, isi_str_str, isi_str_lst, isi_str_tup, isi_str_dic, isi_list_non, isi_list_bl, isi_list_int, isi_list_str, isi_list_lst, isi_list_tup, isi_list_dic, isi_tuple_non, isi_tuple_bl, isi_tuple_int, isi_tuple_str, isi_tuple_lst, isi_tuple_tup, isi_tuple_dic, isi_dict_non, isi_dict_bl, isi_dict_int, isi_dict_str, isi_dict_lst, isi_dict_tup, isi_dict_dic,
 List.map_cons, List.map_nil, List.replicate, List.cons_append, List.nil_append, List.append_nil, List.getElem?_cons_zero, List.getElem?_cons_succ, List.getElem?_nil, List.set_cons_zero, List.set_cons_succ, List.set_nil, List.length_cons, List.length_nil, Option.bind_some, Option.bind_none, Option.map_some, Option.map_none, Option.some.injEq, List.cons.injEq, and_true, true_and, and_assoc, exists_eq_left, exists_eq_left', exists_eq_right, exists_eq_right', exists_and_left, exists_const, if_true, if_false, Bool.false_eq_true, reduceCtorEq, put_same, put_put, Dt.int.injEq, Dt.bl.injEq, Dt.adr.injEq, Dt.tup.injEq, Dt.lst.injEq, Dt.str.injEq, decide_eq_true_eq, Bool.not_true, Bool.not_false, T__law_same]; exact k')
      | (simp [sm] at hs; done)
  | int b =>
    cases x <;> first
      | (simp [sm] at hs; subst hs; simp [sSeq, sIf, sAsg, sRet, sExpr, sNext, sPar, sRaise, sRetN, sDead, ofP, ofB, ofL, pVar, pC, pOp, pUn, pB, pT, pTup, pLst, aNil, aCons, bAnd_eq, bOr_eq, bNot, pIf_eq, pCall, pFn, oLen,  dAt, dFld, dDic, oIsN, oNotN, isN, asB_bl, dI, dI2, gNm, gFld, gTup2, gKey, gIx, tTupE, tLstE, tLstM, tACons, tCallF, tMethF, tMakeF, tBin, tListM, tApp, tDic, tAll, tIfE, tAndB, tOrB, tTst, tB1, tNotB, setF, startD, oList, vAnd_eq, vOr_eq, vNot, dTru, tRng1, oAll, tUnE, tDead, bDead, sFldU, sNmU, pSl, oSome, oNone, oMin, oMax, asI, pCh_eq, cutD_mid, cutD_to, cutD_from, band15, band255, oInt_int,
 dLst_lst, dTup_tup, dLen_lst, dLen_tup, dSeq_lst, dSeq_tup, dSeq_scr, dIx_lst, dIx_tup, at0, at1, at2, at3, at4, at5, at6, at7, dEq_int, dEq_str, dEq_bl, dEq_nn, dEq_ni, dEq_in, dEq_ns, dEq_sn, dEq_is, dEq_si, dNe_int, dNe_str, dNe_ni, dNe_in, dAdd_int,
 isi_bool_non, isi_bool_bl, isi_bool_int, isi_bool_str, isi_bool_lst, isi_bool_tup, isi_bool_dic, isi_int_non, isi_int_bl, isi_int_int, isi_int_str, isi_int_lst, isi_int_tup, isi_int_dic, isi_str_non, isi_str_bl, isi_str_int, isi_str_str, isi_str_lst, isi_str_tup, isi_str_dic, isi_list_non, isi_list_bl, isi_list_int, isi_list_str, isi_list_lst, isi_list_tup, isi_list_dic, isi_tuple_non, isi_tuple_bl, isi_tuple_int, isi_tuple_str, isi_tuple_lst, isi_tuple_tup, isi_tuple_dic, isi_dict_non, isi_dict_bl, isi_dict_int, isi_dict_str, isi_dict_lst, isi_dict_tup, isi_dict_dic,
 List.map_cons, List.map_nil, List.replicate, List.cons_append, List.nil_append, List.append_nil, List.getElem?_cons_zero, List.getElem?_cons_succ, List.getElem?_nil, List.set_cons_zero, List.set_cons_succ, List.set_nil, List.length_cons, List.length_nil, Option.bind_some, Option.bind_none, Option.map_some, Option.map_none, Option.some.injEq, List.cons.injEq, and_true, true_and, and_assoc, exists_eq_left, exists_eq_left', exists_eq_right, exists_eq_right', exists_and_left, exists_const, if_true, if_false, Bool.false_eq_true, reduceCtorEq, put_same, put_put, Dt.int.injEq, Dt.bl.injEq, Dt.adr.injEq, Dt.tup.injEq, Dt.lst.injEq, Dt.str.injEq, decide_eq_true_eq, Bool.not_true, Bool.not_false, T__law_same]; exact k')
      | (simp [sm] at hs; done)
  | str b =>
    cases x <;> first
      | (simp [sm] at hs; obtain ⟨hs, _⟩ := hs; subst hs; simp [sSeq, sIf, sAsg, sRet, sExpr, sNext, sPar, sRaise, sRetN, sDead, ofP, ofB, ofL, pVar, pC, pOp, pUn, pB, pT, pTup, pLst, aNil, aCons, bAnd_eq, bOr_eq, bNot, pIf_eq, pCall, pFn, oLen,  dAt, dFld, dDic, oIsN, oNotN, isN, asB_bl, dI, dI2, gNm, gFld, gTup2, gKey, gIx, tTupE, tLstE, tLstM, tACons, tCallF, tMethF, tMakeF, tBin, tListM, tApp, tDic, tAll, tIfE, tAndB, tOrB, tTst, tB1, tNotB, setF, startD, oList, vAnd_eq, vOr_eq, vNot, dTru, tRng1, oAll, tUnE, tDead, bDead, sFldU, sNmU, pSl, oSome, oNone, oMin, oMax, asI, pCh_eq, cutD_mid, cutD_to, cutD_from, band15, band255, oInt_int,
 dLst_lst, dTup_tup, dLen_lst, dLen_tup, dSeq_lst, dSeq_tup, dSeq_scr, dIx_lst, dIx_tup, at0, at1, at2, at3, at4, at5, at6, at7, dEq_int, dEq_str, dEq_bl, dEq_nn, dEq_ni, dEq_in, dEq_ns, dEq_sn, dEq_is, dEq_si, dNe_int, dNe_str, dNe_ni, dNe_in, dAdd_int,
 isi_bool_non, isi_bool_bl, isi_bool_int, isi_bool_str, isi_bool_lst, isi_bool_tup, isi_bool_dic, isi_int_non, isi_int_bl, isi_int_int, isi_int_str, isi_int_lst, isi_int_tup, isi_int_dic, isi_str_non, isi_str_bl, isi_str_int, isi_str_str, isi_str_lst, isi_str_tup, isi_str_dic, isi_list_non, isi_list_bl, isi_list_int, isi_list_str, isi_list_lst, isi_list_tup, isi_list_dic, isi_tuple_non, isi_tuple_bl, isi_tuple_int, isi_tuple_str, isi_tuple_lst, isi_tuple_tup, isi_tuple_dic, isi_dict_non, isi_dict_bl, isi_dict_int, isi_dict_str, isi_dict_lst, isi_dict_tup, isi_dict_dic,
 List.map_cons, List.map_nil, List.replicate, List.cons_append, List.nil_append, List.append_nil, List.getElem?_cons_zero, List.getElem?_cons_succ, List.getElem?_nil, List.set_cons_zero, List.set_cons_succ, List.set_nil, List.length_cons, List.length_nil, Option.bind_some, Option.bind_none, Option.map_some, Option.map_none, Option.some.injEq, List.cons.injEq, and_true, true_and, and_assoc, exists_eq_left, exists_eq_left', exists_eq_right, exists_eq_right', exists_and_left, exists_const, if_true, if_false, Bool.false_eq_true, reduceCtorEq, put_same, put_put, Dt.int.injEq, Dt.bl.injEq, Dt.adr.injEq, Dt.tup.injEq, Dt.lst.injEq, Dt.str.injEq, decide_eq_true_eq, Bool.not_true, Bool.not_false, T__law_same]; exact k')
      | (simp [sm] at hs; done)
  | tup ys =>
    cases x <;> first
      | (simp [sm] at hs; done)
      | skip
    rename_i xs
    simp [sm] at hs
    obtain ⟨hl, hs⟩ := hs
    have r := fun c => same_run (c := c) (X := .tup xs) (Y := .tup ys) (fun _ => rfl) (fun _ => rfl) hs hl rfl
    have hn := (sms_len hs).1
    have e : ((rng 0 ys.length).all fun _ => true) = true := List.all_eq_true.mpr fun _ _ => rfl
    simp [sSeq, sIf, sAsg, sRet, sExpr, sNext, sPar, sRaise, sRetN, sDead, ofP, ofB, ofL, pVar, pC, pOp, pUn, pB, pT, pTup, pLst, aNil, aCons, bAnd_eq, bOr_eq, bNot, pIf_eq, pCall, pFn, oLen,  dAt, dFld, dDic, oIsN, oNotN, isN, asB_bl, dI, dI2, gNm, gFld, gTup2, gKey, gIx, tTupE, tLstE, tLstM, tACons, tCallF, tMethF, tMakeF, tBin, tListM, tApp, tDic, tAll, tIfE, tAndB, tOrB, tTst, tB1, tNotB, setF, startD, oList, vAnd_eq, vOr_eq, vNot, dTru, tRng1, oAll, tUnE, tDead, bDead, sFldU, sNmU, pSl, oSome, oNone, oMin, oMax, asI, pCh_eq, cutD_mid, cutD_to, cutD_from, band15, band255, oInt_int,
 dLst_lst, dTup_tup, dLen_lst, dLen_tup, dSeq_lst, dSeq_tup, dSeq_scr, dIx_lst, dIx_tup, at0, at1, at2, at3, at4, at5, at6, at7, dEq_int, dEq_str, dEq_bl, dEq_nn, dEq_ni, dEq_in, dEq_ns, dEq_sn, dEq_is, dEq_si, dNe_int, dNe_str, dNe_ni, dNe_in, dAdd_int,
 isi_bool_non, isi_bool_bl, isi_bool_int, isi_bool_str, isi_bool_lst, isi_bool_tup, isi_bool_dic, isi_int_non, isi_int_bl, isi_int_int, isi_int_str, isi_int_lst, isi_int_tup, isi_int_dic, isi_str_non, isi_str_bl, isi_str_int, isi_str_str, isi_str_lst, isi_str_tup, isi_str_dic, isi_list_non, isi_list_bl, isi_list_int, isi_list_str, isi_list_lst, isi_list_tup, isi_list_dic, isi_tuple_non, isi_tuple_bl, isi_tuple_int, isi_tuple_str, isi_tuple_lst, isi_tuple_tup, isi_tuple_dic, isi_dict_non, isi_dict_bl, isi_dict_int, isi_dict_str, isi_dict_lst, isi_dict_tup, isi_dict_dic,
 List.map_cons, List.map_nil, List.replicate, List.cons_append, List.nil_append, List.append_nil, List.getElem?_cons_zero, List.getElem?_cons_succ, List.getElem?_nil, List.set_cons_zero, List.set_cons_succ, List.set_nil, List.length_cons, List.length_nil, Option.bind_some, Option.bind_none, Option.map_some, Option.map_none, Option.some.injEq, List.cons.injEq, and_true, true_and, and_assoc, exists_eq_left, exists_eq_left', exists_eq_right, exists_eq_right', exists_and_left, exists_const, if_true, if_false, Bool.false_eq_true, reduceCtorEq, put_same, put_put, Dt.int.injEq, Dt.bl.injEq, Dt.adr.injEq, Dt.tup.injEq, Dt.lst.injEq, Dt.str.injEq, decide_eq_true_eq, Bool.not_true, Bool.not_false, T__law_same, hn, r, asBs_all, all_true, e]
    exact k'
  | lst ys =>
    cases x <;> first
      | (simp [sm] at hs; done)
      | skip
    rename_i xs
    simp [sm] at hs
    obtain ⟨hl, hs⟩ := hs
    have r := fun c => same_run (c := c) (X := .lst xs) (Y := .lst ys) (fun _ => rfl) (fun _ => rfl) hs hl rfl
    have hn := (sms_len hs).1
    have e : ((rng 0 ys.length).all fun _ => true) = true := List.all_eq_true.mpr fun _ _ => rfl
    simp [sSeq, sIf, sAsg, sRet, sExpr, sNext, sPar, sRaise, sRetN, sDead, ofP, ofB, ofL, pVar, pC, pOp, pUn, pB, pT, pTup, pLst, aNil, aCons, bAnd_eq, bOr_eq, bNot, pIf_eq, pCall, pFn, oLen,  dAt, dFld, dDic, oIsN, oNotN, isN, asB_bl, dI, dI2, gNm, gFld, gTup2, gKey, gIx, tTupE, tLstE, tLstM, tACons, tCallF, tMethF, tMakeF, tBin, tListM, tApp, tDic, tAll, tIfE, tAndB, tOrB, tTst, tB1, tNotB, setF, startD, oList, vAnd_eq, vOr_eq, vNot, dTru, tRng1, oAll, tUnE, tDead, bDead, sFldU, sNmU, pSl, oSome, oNone, oMin, oMax, asI, pCh_eq, cutD_mid, cutD_to, cutD_from, band15, band255, oInt_int,
 dLst_lst, dTup_tup, dLen_lst, dLen_tup, dSeq_lst, dSeq_tup, dSeq_scr, dIx_lst, dIx_tup, at0, at1, at2, at3, at4, at5, at6, at7, dEq_int, dEq_str, dEq_bl, dEq_nn, dEq_ni, dEq_in, dEq_ns, dEq_sn, dEq_is, dEq_si, dNe_int, dNe_str, dNe_ni, dNe_in, dAdd_int,
 isi_bool_non, isi_bool_bl, isi_bool_int, isi_bool_str, isi_bool_lst, isi_bool_tup, isi_bool_dic, isi_int_non, isi_int_bl, isi_int_int, isi_int_str, isi_int_lst, isi_int_tup, isi_int_dic, isi_str_non, isi_str_bl, isi_str_int, isi_str_str, isi_str_lst, isi_str_tup, isi_str_dic, isi_list_non, isi_list_bl, isi_list_int, isi_list_str, isi_list_lst, isi_list_tup, isi_list_dic, isi_tuple_non, isi_tuple_bl, isi_tuple_int, isi_tuple_str, isi_tuple_lst, isi_tuple_tup, isi_tuple_dic, isi_dict_non, isi_dict_bl, isi_dict_int, isi_dict_str, isi_dict_lst, isi_dict_tup, isi_dict_dic,
 List.map_cons, List.map_nil, List.replicate, List.cons_append, List.nil_append, List.append_nil, List.getElem?_cons_zero, List.getElem?_cons_succ, List.getElem?_nil, List.set_cons_zero, List.set_cons_succ, List.set_nil, List.length_cons, List.length_nil, Option.bind_some, Option.bind_none, Option.map_some, Option.map_none, Option.some.injEq, List.cons.injEq, and_true, true_and, and_assoc, exists_eq_left, exists_eq_left', exists_eq_right, exists_eq_right', exists_and_left, exists_const, if_true, if_false, Bool.false_eq_true, reduceCtorEq, put_same, put_put, Dt.int.injEq, Dt.bl.injEq, Dt.adr.injEq, Dt.tup.injEq, Dt.lst.injEq, Dt.str.injEq, decide_eq_true_eq, Bool.not_true, Bool.not_false, T__law_same, hn, r, asBs_all, all_true, e]
    exact k'
  | _ => simp [sm] at hs

end K47
set_option maxRecDepth 100000
set_option maxHeartbeats 4000000
namespace K47
open PySem PySem.Spec PyProof.Rows L2 Ax
theorem intsOf_map : ∀ xs : List Int, intsOf (xs.map Dt.int) = some xs
  | [] => rfl
  | x :: xs => by simp [intsOf, intsOf_map xs]
theorem intsOf_eq : ∀ {ds : List Dt} {xs : List Int}, intsOf ds = some xs → ds = xs.map Dt.int
  | [], xs, h => by
    cases h
    rfl
  | d :: ds, xs, h => by
    cases d with
    | int i =>
      simp only [intsOf] at h
      cases e : intsOf ds with
      | none => rw [e] at h; cases h
      | some r =>
        rw [e] at h
        cases h
        rw [intsOf_eq e]
        rfl
    | _ => simp [intsOf] at h
theorem pure_d {g : List Dt → Sto → Option Dt} {xs : List Dt} {S : Sto} {Φ : Kt} {Ψ : Xt} (h : pureSp g xs S Φ Ψ) : ∃ d, g xs S = some d ∧ Φ d S := h
theorem len_is_number (A : Ad) : ∀ ds S Φ Ψ, pureSp g_is_number ds S Φ Ψ → ds.length = 3 := fun ds S Φ Ψ ⟨d, h, _⟩ => by
  unfold g_is_number at h
  split at h
  · rfl
  · cases h
theorem law_is_number (A : Ad) : ∀ ds S Φ Ψ, pureSp g_is_number ds S Φ Ψ → T_is_number A (LE0 Φ Ψ) (startD 0 ds) S := by
  rintro ds S Φ Ψ ⟨d, h, k⟩
  unfold g_is_number at h
  split at h
  · rename_i t lo hi
    cases h
    simp [sSeq, sIf, sAsg, sRet, sExpr, sNext, sPar, sRaise, sRetN, sDead, ofP, ofB, ofL, pVar, pC, pOp, pUn, pB, pT, pTup, pLst, aNil, aCons, bAnd_eq, bOr_eq, bNot, pIf_eq, pCall, pFn, oLen,  dAt, dFld, dDic, oIsN, oNotN, isN, asB_bl, dI, dI2, gNm, gFld, gTup2, gKey, gIx, tTupE, tLstE, tLstM, tACons, tCallF, tMethF, tMakeF, tBin, tListM, tApp, tDic, tAll, tIfE, tAndB, tOrB, tTst, tB1, tNotB, setF, startD, oList, vAnd_eq, vOr_eq, vNot, dTru, tRng1, oAll, tUnE, tDead, bDead, sFldU, sNmU, pSl, oSome, oNone, oMin, oMax, asI, pCh_eq, cutD_mid, cutD_to, cutD_from, band15, band255, oInt_int,
 dLst_lst, dTup_tup, dLen_lst, dLen_tup, dSeq_lst, dSeq_tup, dSeq_scr, dIx_lst, dIx_tup, at0, at1, at2, at3, at4, at5, at6, at7, dEq_int, dEq_str, dEq_bl, dEq_nn, dEq_ni, dEq_in, dEq_ns, dEq_sn, dEq_is, dEq_si, dNe_int, dNe_str, dNe_ni, dNe_in, dAdd_int,
 isi_bool_non, isi_bool_bl, isi_bool_int, isi_bool_str, isi_bool_lst, isi_bool_tup, isi_bool_dic, isi_int_non, isi_int_bl, isi_int_int, isi_int_str, isi_int_lst, isi_int_tup, isi_int_dic, isi_str_non, isi_str_bl, isi_str_int, isi_str_str, isi_str_lst, isi_str_tup, isi_str_dic, isi_list_non, isi_list_bl, isi_list_int, isi_list_str, isi_list_lst, isi_list_tup, isi_list_dic, isi_tuple_non, isi_tuple_bl, isi_tuple_int, isi_tuple_str, isi_tuple_lst, isi_tuple_tup, isi_tuple_dic, isi_dict_non, isi_dict_bl, isi_dict_int, isi_dict_str, isi_dict_lst, isi_dict_tup, isi_dict_dic,
 List.map_cons, List.map_nil, List.replicate, List.cons_append, List.nil_append, List.append_nil, List.getElem?_cons_zero, List.getElem?_cons_succ, List.getElem?_nil, List.set_cons_zero, List.set_cons_succ, List.set_nil, List.length_cons, List.length_nil, Option.bind_some, Option.bind_none, Option.map_some, Option.map_none, Option.some.injEq, List.cons.injEq, and_true, true_and, and_assoc, exists_eq_left, exists_eq_left', exists_eq_right, exists_eq_right', exists_and_left, exists_const, if_true, if_false, Bool.false_eq_true, reduceCtorEq, put_same, put_put, Dt.int.injEq, Dt.bl.injEq, Dt.adr.injEq, Dt.tup.injEq, Dt.lst.injEq, Dt.str.injEq, decide_eq_true_eq, Bool.not_true, Bool.not_false, T_is_number]
    by_cases c : lo ≤ t
    · simp [sSeq, sIf, sAsg, sRet, sExpr, sNext, sPar, sRaise, sRetN, sDead, ofP, ofB, ofL, pVar, pC, pOp, pUn, pB, pT, pTup, pLst, aNil, aCons, bAnd_eq, bOr_eq, bNot, pIf_eq, pCall, pFn, oLen,  dAt, dFld, dDic, oIsN, oNotN, isN, asB_bl, dI, dI2, gNm, gFld, gTup2, gKey, gIx, tTupE, tLstE, tLstM, tACons, tCallF, tMethF, tMakeF, tBin, tListM, tApp, tDic, tAll, tIfE, tAndB, tOrB, tTst, tB1, tNotB, setF, startD, oList, vAnd_eq, vOr_eq, vNot, dTru, tRng1, oAll, tUnE, tDead, bDead, sFldU, sNmU, pSl, oSome, oNone, oMin, oMax, asI, pCh_eq, cutD_mid, cutD_to, cutD_from, band15, band255, oInt_int,
 dLst_lst, dTup_tup, dLen_lst, dLen_tup, dSeq_lst, dSeq_tup, dSeq_scr, dIx_lst, dIx_tup, at0, at1, at2, at3, at4, at5, at6, at7, dEq_int, dEq_str, dEq_bl, dEq_nn, dEq_ni, dEq_in, dEq_ns, dEq_sn, dEq_is, dEq_si, dNe_int, dNe_str, dNe_ni, dNe_in, dAdd_int,
 isi_bool_non, isi_bool_bl, isi_bool_int, isi_bool_str, isi_bool_lst, isi_bool_tup, isi_bool_dic, isi_int_non, isi_int_bl, isi_int_int, isi_int_str, isi_int_lst, isi_int_tup, isi_int_dic, isi_str_non, isi_str_bl, isi_str_int, isi_str_str, isi_str_lst, isi_str_tup, isi_str_dic, isi_list_non, isi_list_bl, isi_list_int, isi_list_str, isi_list_lst, isi_list_tup, isi_list_dic, isi_tuple_non, isi_tuple_bl, isi_tuple_int, isi_tuple_str, isi_tuple_lst, isi_tuple_tup, isi_tuple_dic, isi_dict_non, isi_dict_bl, isi_dict_int, isi_dict_str, isi_dict_lst, isi_dict_tup, isi_dict_dic,
 List.map_cons, List.map_nil, List.replicate, List.cons_append, List.nil_append, List.append_nil, List.getElem?_cons_zero, List.getElem?_cons_succ, List.getElem?_nil, List.set_cons_zero, List.set_cons_succ, List.set_nil, List.length_cons, List.length_nil, Option.bind_some, Option.bind_none, Option.map_some, Option.map_none, Option.some.injEq, List.cons.injEq, and_true, true_and, and_assoc, exists_eq_left, exists_eq_left', exists_eq_right, exists_eq_right', exists_and_left, exists_const, if_true, if_false, Bool.false_eq_true, reduceCtorEq, put_same, put_put, Dt.int.injEq, Dt.bl.injEq, Dt.adr.injEq, Dt.tup.injEq, Dt.lst.injEq, Dt.str.injEq, decide_eq_true_eq, Bool.not_true, Bool.not_false, c] at k ⊢
      exact k
    · simp [sSeq, sIf, sAsg, sRet, sExpr, sNext, sPar, sRaise, sRetN, sDead, ofP, ofB, ofL, pVar, pC, pOp, pUn, pB, pT, pTup, pLst, aNil, aCons, bAnd_eq, bOr_eq, bNot, pIf_eq, pCall, pFn, oLen,  dAt, dFld, dDic, oIsN, oNotN, isN, asB_bl, dI, dI2, gNm, gFld, gTup2, gKey, gIx, tTupE, tLstE, tLstM, tACons, tCallF, tMethF, tMakeF, tBin, tListM, tApp, tDic, tAll, tIfE, tAndB, tOrB, tTst, tB1, tNotB, setF, startD, oList, vAnd_eq, vOr_eq, vNot, dTru, tRng1, oAll, tUnE, tDead, bDead, sFldU, sNmU, pSl, oSome, oNone, oMin, oMax, asI, pCh_eq, cutD_mid, cutD_to, cutD_from, band15, band255, oInt_int,
 dLst_lst, dTup_tup, dLen_lst, dLen_tup, dSeq_lst, dSeq_tup, dSeq_scr, dIx_lst, dIx_tup, at0, at1, at2, at3, at4, at5, at6, at7, dEq_int, dEq_str, dEq_bl, dEq_nn, dEq_ni, dEq_in, dEq_ns, dEq_sn, dEq_is, dEq_si, dNe_int, dNe_str, dNe_ni, dNe_in, dAdd_int,
 isi_bool_non, isi_bool_bl, isi_bool_int, isi_bool_str, isi_bool_lst, isi_bool_tup, isi_bool_dic, isi_int_non, isi_int_bl, isi_int_int, isi_int_str, isi_int_lst, isi_int_tup, isi_int_dic, isi_str_non, isi_str_bl, isi_str_int, isi_str_str, isi_str_lst, isi_str_tup, isi_str_dic, isi_list_non, isi_list_bl, isi_list_int, isi_list_str, isi_list_lst, isi_list_tup, isi_list_dic, isi_tuple_non, isi_tuple_bl, isi_tuple_int, isi_tuple_str, isi_tuple_lst, isi_tuple_tup, isi_tuple_dic, isi_dict_non, isi_dict_bl, isi_dict_int, isi_dict_str, isi_dict_lst, isi_dict_tup, isi_dict_dic,
 List.map_cons, List.map_nil, List.replicate, List.cons_append, List.nil_append, List.append_nil, List.getElem?_cons_zero, List.getElem?_cons_succ, List.getElem?_nil, List.set_cons_zero, List.set_cons_succ, List.set_nil, List.length_cons, List.length_nil, Option.bind_some, Option.bind_none, Option.map_some, Option.map_none, Option.some.injEq, List.cons.injEq, and_true, true_and, and_assoc, exists_eq_left, exists_eq_left', exists_eq_right, exists_eq_right', exists_and_left, exists_const, if_true, if_false, Bool.false_eq_true, reduceCtorEq, put_same, put_put, Dt.int.injEq, Dt.bl.injEq, Dt.adr.injEq, Dt.tup.injEq, Dt.lst.injEq, Dt.str.injEq, decide_eq_true_eq, Bool.not_true, Bool.not_false, c] at k ⊢
      exact k
  · cases h
theorem len_is_octets (A : Ad) : ∀ ds S Φ Ψ, pureSp g_is_octets ds S Φ Ψ → ds.length = 2 := fun ds S Φ Ψ ⟨d, h, _⟩ => by
  unfold g_is_octets at h
  split at h
  · rfl
  · cases h
theorem asBs_allG {α : Type} : ∀ {l : List α}, asBs (l.map fun _ => .bl true) = some (l.map fun _ => true)
  | [] => rfl
  | x :: l => by simp only [List.map_cons, asBs, asBs_allG, Option.map_some]
theorem octs_run {S : Sto} {xs : List Int} {x : Option Dt} (h : octs xs = true) (hl : xs.length ≤ 1000) {y : Option Dt} :
    pLc (pSeq (pVar 0)) [2] (G1 2) bYes (pFn g_is_number (aCons (pVar 2) (aCons (pC (.int 0)) (aCons (pC (.int 255)) aNil)))) [some (il xs), x, y] S = some (.lst (xs.map fun _ => .bl true)) := by
  have hl' : xs.length < 1000000 := by omega
  simp only [pLc, pSeq, pVar, List.getElem?_cons_zero, il, dFix, Option.bind_some, List.length_map, hl', if_true]
  rw [lc_all fun d hd => ?_]
  · simp [List.map_map, Function.comp_def]
  · obtain ⟨i, hi, e⟩ := List.mem_map.mp hd
    subst e
    have := List.all_eq_true.mp h i hi
    simp at this
    refine ⟨rfl, ?_⟩
    simp [sSeq, sIf, sAsg, sRet, sExpr, sNext, sPar, sRaise, sRetN, sDead, ofP, ofB, ofL, pVar, pC, pOp, pUn, pB, pT, pTup, pLst, aNil, aCons, bAnd_eq, bOr_eq, bNot, pIf_eq, pCall, pFn, oLen,  dAt, dFld, dDic, oIsN, oNotN, isN, asB_bl, dI, dI2, gNm, gFld, gTup2, gKey, gIx, tTupE, tLstE, tLstM, tACons, tCallF, tMethF, tMakeF, tBin, tListM, tApp, tDic, tAll, tIfE, tAndB, tOrB, tTst, tB1, tNotB, setF, startD, oList, vAnd_eq, vOr_eq, vNot, dTru, tRng1, oAll, tUnE, tDead, bDead, sFldU, sNmU, pSl, oSome, oNone, oMin, oMax, asI, pCh_eq, cutD_mid, cutD_to, cutD_from, band15, band255, oInt_int,
 dLst_lst, dTup_tup, dLen_lst, dLen_tup, dSeq_lst, dSeq_tup, dSeq_scr, dIx_lst, dIx_tup, at0, at1, at2, at3, at4, at5, at6, at7, dEq_int, dEq_str, dEq_bl, dEq_nn, dEq_ni, dEq_in, dEq_ns, dEq_sn, dEq_is, dEq_si, dNe_int, dNe_str, dNe_ni, dNe_in, dAdd_int,
 isi_bool_non, isi_bool_bl, isi_bool_int, isi_bool_str, isi_bool_lst, isi_bool_tup, isi_bool_dic, isi_int_non, isi_int_bl, isi_int_int, isi_int_str, isi_int_lst, isi_int_tup, isi_int_dic, isi_str_non, isi_str_bl, isi_str_int, isi_str_str, isi_str_lst, isi_str_tup, isi_str_dic, isi_list_non, isi_list_bl, isi_list_int, isi_list_str, isi_list_lst, isi_list_tup, isi_list_dic, isi_tuple_non, isi_tuple_bl, isi_tuple_int, isi_tuple_str, isi_tuple_lst, isi_tuple_tup, isi_tuple_dic, isi_dict_non, isi_dict_bl, isi_dict_int, isi_dict_str, isi_dict_lst, isi_dict_tup, isi_dict_dic,
 List.map_cons, List.map_nil, List.replicate, List.cons_append, List.nil_append, List.append_nil, List.getElem?_cons_zero, List.getElem?_cons_succ, List.getElem?_nil, List.set_cons_zero, List.set_cons_succ, List.set_nil, List.length_cons, List.length_nil, Option.bind_some, Option.bind_none, Option.map_some, Option.map_none, Option.some.injEq, List.cons.injEq, and_true, true_and, and_assoc, exists_eq_left, exists_eq_left', exists_eq_right, exists_eq_right', exists_and_left, exists_const, if_true, if_false, Bool.false_eq_true, reduceCtorEq, put_same, put_put, Dt.int.injEq, Dt.bl.injEq, Dt.adr.injEq, Dt.tup.injEq, Dt.lst.injEq, Dt.str.injEq, decide_eq_true_eq, Bool.not_true, Bool.not_false, G1, wipeD, pFn, g_is_number, this]
theorem law_is_octets (A : Ad) : ∀ ds S Φ Ψ, pureSp g_is_octets ds S Φ Ψ → T_is_octets A (LE0 Φ Ψ) (startD 1 ds) S := by
  rintro ds S Φ Ψ ⟨d, h, k⟩
  unfold g_is_octets at h
  split at h
  · rename_i ds most
    cases e : intsOf ds with
    | none => rw [e] at h; cases h
    | some xs =>
      rw [e, Option.bind_some] at h
      split at h
      · rename_i hc
        cases h
        obtain ⟨h1, h2, h3⟩ := hc
        rw [intsOf_eq e]
        have r := octs_run (S := S) (x := some (.int most)) (y := none) h1 h3
        have e2 : ((xs.map fun _ => true).all id) = true := all_true
        simp only [il] at r
        simp [sSeq, sIf, sAsg, sRet, sExpr, sNext, sPar, sRaise, sRetN, sDead, ofP, ofB, ofL, pVar, pC, pOp, pUn, pB, pT, pTup, pLst, aNil, aCons, bAnd_eq, bOr_eq, bNot, pIf_eq, pCall, pFn, oLen,  dAt, dFld, dDic, oIsN, oNotN, isN, asB_bl, dI, dI2, gNm, gFld, gTup2, gKey, gIx, tTupE, tLstE, tLstM, tACons, tCallF, tMethF, tMakeF, tBin, tListM, tApp, tDic, tAll, tIfE, tAndB, tOrB, tTst, tB1, tNotB, setF, startD, oList, vAnd_eq, vOr_eq, vNot, dTru, tRng1, oAll, tUnE, tDead, bDead, sFldU, sNmU, pSl, oSome, oNone, oMin, oMax, asI, pCh_eq, cutD_mid, cutD_to, cutD_from, band15, band255, oInt_int,
 dLst_lst, dTup_tup, dLen_lst, dLen_tup, dSeq_lst, dSeq_tup, dSeq_scr, dIx_lst, dIx_tup, at0, at1, at2, at3, at4, at5, at6, at7, dEq_int, dEq_str, dEq_bl, dEq_nn, dEq_ni, dEq_in, dEq_ns, dEq_sn, dEq_is, dEq_si, dNe_int, dNe_str, dNe_ni, dNe_in, dAdd_int,
 isi_bool_non, isi_bool_bl, isi_bool_int, isi_bool_str, isi_bool_lst, isi_bool_tup, isi_bool_dic, isi_int_non, isi_int_bl, isi_int_int, isi_int_str, isi_int_lst, isi_int_tup, isi_int_dic, isi_str_non, isi_str_bl, isi_str_int, isi_str_str, isi_str_lst, isi_str_tup, isi_str_dic, isi_list_non, isi_list_bl, isi_list_int, isi_list_str, isi_list_lst, isi_list_tup, isi_list_dic, isi_tuple_non, isi_tuple_bl, isi_tuple_int, isi_tuple_str, isi_tuple_lst, isi_tuple_tup, isi_tuple_dic, isi_dict_non, isi_dict_bl, isi_dict_int, isi_dict_str, isi_dict_lst, isi_dict_tup, isi_dict_dic,
 List.map_cons, List.map_nil, List.replicate, List.cons_append, List.nil_append, List.append_nil, List.getElem?_cons_zero, List.getElem?_cons_succ, List.getElem?_nil, List.set_cons_zero, List.set_cons_succ, List.set_nil, List.length_cons, List.length_nil, Option.bind_some, Option.bind_none, Option.map_some, Option.map_none, Option.some.injEq, List.cons.injEq, and_true, true_and, and_assoc, exists_eq_left, exists_eq_left', exists_eq_right, exists_eq_right', exists_and_left, exists_const, if_true, if_false, Bool.false_eq_true, reduceCtorEq, put_same, put_put, Dt.int.injEq, Dt.bl.injEq, Dt.adr.injEq, Dt.tup.injEq, Dt.lst.injEq, Dt.str.injEq, decide_eq_true_eq, Bool.not_true, Bool.not_false, T_is_octets, h2, r, asBs_allG, e2]
        exact k
      · cases h
  · cases h
theorem len_single (A : Ad) : ∀ ds S Φ Ψ, pureSp g_single ds S Φ Ψ → ds.length = 1 := fun ds S Φ Ψ ⟨d, h, _⟩ => by
  unfold g_single at h
  split at h
  · rfl
  · cases h
theorem law_single (A : Ad) : ∀ ds S Φ Ψ, pureSp g_single ds S Φ Ψ → T_single A (LE0 Φ Ψ) (startD 0 ds) S := by
  rintro ds S Φ Ψ ⟨d, h, k⟩
  unfold g_single at h
  split at h
  · rename_i ds
    split at h
    · rename_i hl
      cases h
      have hz : ([Dt.int ds.length] : List Dt).length + ds.length ≤ 1000000 := by simp; omega
      simp [sSeq, sIf, sAsg, sRet, sExpr, sNext, sPar, sRaise, sRetN, sDead, ofP, ofB, ofL, pVar, pC, pOp, pUn, pB, pT, pTup, pLst, aNil, aCons, bAnd_eq, bOr_eq, bNot, pIf_eq, pCall, pFn, oLen,  dAt, dFld, dDic, oIsN, oNotN, isN, asB_bl, dI, dI2, gNm, gFld, gTup2, gKey, gIx, tTupE, tLstE, tLstM, tACons, tCallF, tMethF, tMakeF, tBin, tListM, tApp, tDic, tAll, tIfE, tAndB, tOrB, tTst, tB1, tNotB, setF, startD, oList, vAnd_eq, vOr_eq, vNot, dTru, tRng1, oAll, tUnE, tDead, bDead, sFldU, sNmU, pSl, oSome, oNone, oMin, oMax, asI, pCh_eq, cutD_mid, cutD_to, cutD_from, band15, band255, oInt_int,
 dLst_lst, dTup_tup, dLen_lst, dLen_tup, dSeq_lst, dSeq_tup, dSeq_scr, dIx_lst, dIx_tup, at0, at1, at2, at3, at4, at5, at6, at7, dEq_int, dEq_str, dEq_bl, dEq_nn, dEq_ni, dEq_in, dEq_ns, dEq_sn, dEq_is, dEq_si, dNe_int, dNe_str, dNe_ni, dNe_in, dAdd_int,
 isi_bool_non, isi_bool_bl, isi_bool_int, isi_bool_str, isi_bool_lst, isi_bool_tup, isi_bool_dic, isi_int_non, isi_int_bl, isi_int_int, isi_int_str, isi_int_lst, isi_int_tup, isi_int_dic, isi_str_non, isi_str_bl, isi_str_int, isi_str_str, isi_str_lst, isi_str_tup, isi_str_dic, isi_list_non, isi_list_bl, isi_list_int, isi_list_str, isi_list_lst, isi_list_tup, isi_list_dic, isi_tuple_non, isi_tuple_bl, isi_tuple_int, isi_tuple_str, isi_tuple_lst, isi_tuple_tup, isi_tuple_dic, isi_dict_non, isi_dict_bl, isi_dict_int, isi_dict_str, isi_dict_lst, isi_dict_tup, isi_dict_dic,
 List.map_cons, List.map_nil, List.replicate, List.cons_append, List.nil_append, List.append_nil, List.getElem?_cons_zero, List.getElem?_cons_succ, List.getElem?_nil, List.set_cons_zero, List.set_cons_succ, List.set_nil, List.length_cons, List.length_nil, Option.bind_some, Option.bind_none, Option.map_some, Option.map_none, Option.some.injEq, List.cons.injEq, and_true, true_and, and_assoc, exists_eq_left, exists_eq_left', exists_eq_right, exists_eq_right', exists_and_left, exists_const, if_true, if_false, Bool.false_eq_true, reduceCtorEq, put_same, put_put, Dt.int.injEq, Dt.bl.injEq, Dt.adr.injEq, Dt.tup.injEq, Dt.lst.injEq, Dt.str.injEq, decide_eq_true_eq, Bool.not_true, Bool.not_false, T_single, dAdd_lst hz]
      exact k
    · cases h
  · cases h
theorem len_first (A : Ad) : ∀ ds S Φ Ψ, pureSp g_first ds S Φ Ψ → ds.length = 1 := fun ds S Φ Ψ ⟨d, h, _⟩ => by
  unfold g_first at h
  split at h
  · rfl
  · cases h
theorem law_first (A : Ad) : ∀ ds S Φ Ψ, pureSp g_first ds S Φ Ψ → T_first A (LE0 Φ Ψ) (startD 0 ds) S := by
  rintro ds S Φ Ψ ⟨d, h, k⟩
  unfold g_first at h
  split at h
  · rename_i ds
    split at h
    · rename_i hl
      cases h
      have hz : ∀ a b : Dt, ([a, b] : List Dt).length + (ds.take 6).length ≤ 1000000 := fun a b => by simp; omega
      simp [sSeq, sIf, sAsg, sRet, sExpr, sNext, sPar, sRaise, sRetN, sDead, ofP, ofB, ofL, pVar, pC, pOp, pUn, pB, pT, pTup, pLst, aNil, aCons, bAnd_eq, bOr_eq, bNot, pIf_eq, pCall, pFn, oLen,  dAt, dFld, dDic, oIsN, oNotN, isN, asB_bl, dI, dI2, gNm, gFld, gTup2, gKey, gIx, tTupE, tLstE, tLstM, tACons, tCallF, tMethF, tMakeF, tBin, tListM, tApp, tDic, tAll, tIfE, tAndB, tOrB, tTst, tB1, tNotB, setF, startD, oList, vAnd_eq, vOr_eq, vNot, dTru, tRng1, oAll, tUnE, tDead, bDead, sFldU, sNmU, pSl, oSome, oNone, oMin, oMax, asI, pCh_eq, cutD_mid, cutD_to, cutD_from, band15, band255, oInt_int,
 dLst_lst, dTup_tup, dLen_lst, dLen_tup, dSeq_lst, dSeq_tup, dSeq_scr, dIx_lst, dIx_tup, at0, at1, at2, at3, at4, at5, at6, at7, dEq_int, dEq_str, dEq_bl, dEq_nn, dEq_ni, dEq_in, dEq_ns, dEq_sn, dEq_is, dEq_si, dNe_int, dNe_str, dNe_ni, dNe_in, dAdd_int,
 isi_bool_non, isi_bool_bl, isi_bool_int, isi_bool_str, isi_bool_lst, isi_bool_tup, isi_bool_dic, isi_int_non, isi_int_bl, isi_int_int, isi_int_str, isi_int_lst, isi_int_tup, isi_int_dic, isi_str_non, isi_str_bl, isi_str_int, isi_str_str, isi_str_lst, isi_str_tup, isi_str_dic, isi_list_non, isi_list_bl, isi_list_int, isi_list_str, isi_list_lst, isi_list_tup, isi_list_dic, isi_tuple_non, isi_tuple_bl, isi_tuple_int, isi_tuple_str, isi_tuple_lst, isi_tuple_tup, isi_tuple_dic, isi_dict_non, isi_dict_bl, isi_dict_int, isi_dict_str, isi_dict_lst, isi_dict_tup, isi_dict_dic,
 List.map_cons, List.map_nil, List.replicate, List.cons_append, List.nil_append, List.append_nil, List.getElem?_cons_zero, List.getElem?_cons_succ, List.getElem?_nil, List.set_cons_zero, List.set_cons_succ, List.set_nil, List.length_cons, List.length_nil, Option.bind_some, Option.bind_none, Option.map_some, Option.map_none, Option.some.injEq, List.cons.injEq, and_true, true_and, and_assoc, exists_eq_left, exists_eq_left', exists_eq_right, exists_eq_right', exists_and_left, exists_const, if_true, if_false, Bool.false_eq_true, reduceCtorEq, put_same, put_put, Dt.int.injEq, Dt.bl.injEq, Dt.adr.injEq, Dt.tup.injEq, Dt.lst.injEq, Dt.str.injEq, decide_eq_true_eq, Bool.not_true, Bool.not_false, T_first, dAdd_lst (hz _ _)]
      exact k
    · cases h
  · cases h
theorem len_next_part (A : Ad) : ∀ ds S Φ Ψ, pureSp g_next_part ds S Φ Ψ → ds.length = 2 := fun ds S Φ Ψ ⟨d, h, _⟩ => by
  unfold g_next_part at h
  split at h
  · rfl
  · cases h
theorem law_next_part (A : Ad) : ∀ ds S Φ Ψ, pureSp g_next_part ds S Φ Ψ → T_next_part A (LE0 Φ Ψ) (startD 0 ds) S := by
  rintro ds S Φ Ψ ⟨d, h, k⟩
  unfold g_next_part at h
  split at h
  · rename_i n ds
    split at h
    · rename_i hl
      cases h
      have hz : ∀ a : Dt, ([a] : List Dt).length + ds.length ≤ 1000000 := fun a => by simp; omega
      simp [sSeq, sIf, sAsg, sRet, sExpr, sNext, sPar, sRaise, sRetN, sDead, ofP, ofB, ofL, pVar, pC, pOp, pUn, pB, pT, pTup, pLst, aNil, aCons, bAnd_eq, bOr_eq, bNot, pIf_eq, pCall, pFn, oLen,  dAt, dFld, dDic, oIsN, oNotN, isN, asB_bl, dI, dI2, gNm, gFld, gTup2, gKey, gIx, tTupE, tLstE, tLstM, tACons, tCallF, tMethF, tMakeF, tBin, tListM, tApp, tDic, tAll, tIfE, tAndB, tOrB, tTst, tB1, tNotB, setF, startD, oList, vAnd_eq, vOr_eq, vNot, dTru, tRng1, oAll, tUnE, tDead, bDead, sFldU, sNmU, pSl, oSome, oNone, oMin, oMax, asI, pCh_eq, cutD_mid, cutD_to, cutD_from, band15, band255, oInt_int,
 dLst_lst, dTup_tup, dLen_lst, dLen_tup, dSeq_lst, dSeq_tup, dSeq_scr, dIx_lst, dIx_tup, at0, at1, at2, at3, at4, at5, at6, at7, dEq_int, dEq_str, dEq_bl, dEq_nn, dEq_ni, dEq_in, dEq_ns, dEq_sn, dEq_is, dEq_si, dNe_int, dNe_str, dNe_ni, dNe_in, dAdd_int,
 isi_bool_non, isi_bool_bl, isi_bool_int, isi_bool_str, isi_bool_lst, isi_bool_tup, isi_bool_dic, isi_int_non, isi_int_bl, isi_int_int, isi_int_str, isi_int_lst, isi_int_tup, isi_int_dic, isi_str_non, isi_str_bl, isi_str_int, isi_str_str, isi_str_lst, isi_str_tup, isi_str_dic, isi_list_non, isi_list_bl, isi_list_int, isi_list_str, isi_list_lst, isi_list_tup, isi_list_dic, isi_tuple_non, isi_tuple_bl, isi_tuple_int, isi_tuple_str, isi_tuple_lst, isi_tuple_tup, isi_tuple_dic, isi_dict_non, isi_dict_bl, isi_dict_int, isi_dict_str, isi_dict_lst, isi_dict_tup, isi_dict_dic,
 List.map_cons, List.map_nil, List.replicate, List.cons_append, List.nil_append, List.append_nil, List.getElem?_cons_zero, List.getElem?_cons_succ, List.getElem?_nil, List.set_cons_zero, List.set_cons_succ, List.set_nil, List.length_cons, List.length_nil, Option.bind_some, Option.bind_none, Option.map_some, Option.map_none, Option.some.injEq, List.cons.injEq, and_true, true_and, and_assoc, exists_eq_left, exists_eq_left', exists_eq_right, exists_eq_right', exists_and_left, exists_const, if_true, if_false, Bool.false_eq_true, reduceCtorEq, put_same, put_put, Dt.int.injEq, Dt.bl.injEq, Dt.adr.injEq, Dt.tup.injEq, Dt.lst.injEq, Dt.str.injEq, decide_eq_true_eq, Bool.not_true, Bool.not_false, T_next_part, dAdd_lst (hz _)]
      exact k
    · cases h
  · cases h
theorem len_gap_of (A : Ad) : ∀ ds S Φ Ψ, pureSp g_gap_of ds S Φ Ψ → ds.length = 1 := fun ds S Φ Ψ ⟨d, h, _⟩ => by
  unfold g_gap_of at h
  split at h
  · rfl
  · cases h
theorem law_gap_of (A : Ad) : ∀ ds S Φ Ψ, pureSp g_gap_of ds S Φ Ψ → T_gap_of A (LE0 Φ Ψ) (startD 0 ds) S := by
  rintro ds S Φ Ψ ⟨d, h, k⟩
  unfold g_gap_of at h
  split at h
  · cases h
    simp [sSeq, sIf, sAsg, sRet, sExpr, sNext, sPar, sRaise, sRetN, sDead, ofP, ofB, ofL, pVar, pC, pOp, pUn, pB, pT, pTup, pLst, aNil, aCons, bAnd_eq, bOr_eq, bNot, pIf_eq, pCall, pFn, oLen,  dAt, dFld, dDic, oIsN, oNotN, isN, asB_bl, dI, dI2, gNm, gFld, gTup2, gKey, gIx, tTupE, tLstE, tLstM, tACons, tCallF, tMethF, tMakeF, tBin, tListM, tApp, tDic, tAll, tIfE, tAndB, tOrB, tTst, tB1, tNotB, setF, startD, oList, vAnd_eq, vOr_eq, vNot, dTru, tRng1, oAll, tUnE, tDead, bDead, sFldU, sNmU, pSl, oSome, oNone, oMin, oMax, asI, pCh_eq, cutD_mid, cutD_to, cutD_from, band15, band255, oInt_int,
 dLst_lst, dTup_tup, dLen_lst, dLen_tup, dSeq_lst, dSeq_tup, dSeq_scr, dIx_lst, dIx_tup, at0, at1, at2, at3, at4, at5, at6, at7, dEq_int, dEq_str, dEq_bl, dEq_nn, dEq_ni, dEq_in, dEq_ns, dEq_sn, dEq_is, dEq_si, dNe_int, dNe_str, dNe_ni, dNe_in, dAdd_int,
 isi_bool_non, isi_bool_bl, isi_bool_int, isi_bool_str, isi_bool_lst, isi_bool_tup, isi_bool_dic, isi_int_non, isi_int_bl, isi_int_int, isi_int_str, isi_int_lst, isi_int_tup, isi_int_dic, isi_str_non, isi_str_bl, isi_str_int, isi_str_str, isi_str_lst, isi_str_tup, isi_str_dic, isi_list_non, isi_list_bl, isi_list_int, isi_list_str, isi_list_lst, isi_list_tup, isi_list_dic, isi_tuple_non, isi_tuple_bl, isi_tuple_int, isi_tuple_str, isi_tuple_lst, isi_tuple_tup, isi_tuple_dic, isi_dict_non, isi_dict_bl, isi_dict_int, isi_dict_str, isi_dict_lst, isi_dict_tup, isi_dict_dic,
 List.map_cons, List.map_nil, List.replicate, List.cons_append, List.nil_append, List.append_nil, List.getElem?_cons_zero, List.getElem?_cons_succ, List.getElem?_nil, List.set_cons_zero, List.set_cons_succ, List.set_nil, List.length_cons, List.length_nil, Option.bind_some, Option.bind_none, Option.map_some, Option.map_none, Option.some.injEq, List.cons.injEq, and_true, true_and, and_assoc, exists_eq_left, exists_eq_left', exists_eq_right, exists_eq_right', exists_and_left, exists_const, if_true, if_false, Bool.false_eq_true, reduceCtorEq, put_same, put_put, Dt.int.injEq, Dt.bl.injEq, Dt.adr.injEq, Dt.tup.injEq, Dt.lst.injEq, Dt.str.injEq, decide_eq_true_eq, Bool.not_true, Bool.not_false, T_gap_of]
    exact k
  · cases h
end K47
set_option maxRecDepth 100000
set_option maxHeartbeats 4000000
namespace K47
open PySem PySem.Spec PyProof.Rows L2 Ax
theorem len_told_by (A : Ad) : ∀ ds S Φ Ψ, pureSp g_told_by ds S Φ Ψ → ds.length = 1 := fun ds S Φ Ψ ⟨d, h, _⟩ => by
  unfold g_told_by at h
  split at h
  · rfl
  · cases h
theorem law_told_by (A : Ad) : ∀ ds S Φ Ψ, pureSp g_told_by ds S Φ Ψ → T_told_by A (LE0 Φ Ψ) (startD 3 ds) S := by
  rintro ds S Φ Ψ ⟨d, h, k⟩
  unfold g_told_by at h
  split at h
  · rename_i ds
    cases e : intsOf ds with
    | none => rw [e] at h; cases h
    | some xs =>
      rw [e, Option.bind_some] at h
      split at h
      · rename_i hc
        obtain ⟨h1, h2⟩ := hc
        have e1 := intsOf_eq e
        subst e1
        have g1 : g_is_octets [.lst (xs.map Dt.int), .int 8] S = some (.bl true) := by
          have h3 : (xs.length : Int) ≤ 8 := by omega
          have h4 : xs.length ≤ 1000 := by omega
          simp [g_is_octets, e, h1, h3, h4]
        cases xs with
        | nil =>
          simp [toldM] at h
          subst h
          simp only [List.map_nil] at g1
          simp [sSeq, sIf, sAsg, sRet, sExpr, sNext, sPar, sRaise, sRetN, sDead, ofP, ofB, ofL, pVar, pC, pOp, pUn, pB, pT, pTup, pLst, aNil, aCons, bAnd_eq, bOr_eq, bNot, pIf_eq, pCall, pFn, oLen,  dAt, dFld, dDic, oIsN, oNotN, isN, asB_bl, dI, dI2, gNm, gFld, gTup2, gKey, gIx, tTupE, tLstE, tLstM, tACons, tCallF, tMethF, tMakeF, tBin, tListM, tApp, tDic, tAll, tIfE, tAndB, tOrB, tTst, tB1, tNotB, setF, startD, oList, vAnd_eq, vOr_eq, vNot, dTru, tRng1, oAll, tUnE, tDead, bDead, sFldU, sNmU, pSl, oSome, oNone, oMin, oMax, asI, pCh_eq, cutD_mid, cutD_to, cutD_from, band15, band255, oInt_int,
 dLst_lst, dTup_tup, dLen_lst, dLen_tup, dSeq_lst, dSeq_tup, dSeq_scr, dIx_lst, dIx_tup, at0, at1, at2, at3, at4, at5, at6, at7, dEq_int, dEq_str, dEq_bl, dEq_nn, dEq_ni, dEq_in, dEq_ns, dEq_sn, dEq_is, dEq_si, dNe_int, dNe_str, dNe_ni, dNe_in, dAdd_int,
 isi_bool_non, isi_bool_bl, isi_bool_int, isi_bool_str, isi_bool_lst, isi_bool_tup, isi_bool_dic, isi_int_non, isi_int_bl, isi_int_int, isi_int_str, isi_int_lst, isi_int_tup, isi_int_dic, isi_str_non, isi_str_bl, isi_str_int, isi_str_str, isi_str_lst, isi_str_tup, isi_str_dic, isi_list_non, isi_list_bl, isi_list_int, isi_list_str, isi_list_lst, isi_list_tup, isi_list_dic, isi_tuple_non, isi_tuple_bl, isi_tuple_int, isi_tuple_str, isi_tuple_lst, isi_tuple_tup, isi_tuple_dic, isi_dict_non, isi_dict_bl, isi_dict_int, isi_dict_str, isi_dict_lst, isi_dict_tup, isi_dict_dic,
 List.map_cons, List.map_nil, List.replicate, List.cons_append, List.nil_append, List.append_nil, List.getElem?_cons_zero, List.getElem?_cons_succ, List.getElem?_nil, List.set_cons_zero, List.set_cons_succ, List.set_nil, List.length_cons, List.length_nil, Option.bind_some, Option.bind_none, Option.map_some, Option.map_none, Option.some.injEq, List.cons.injEq, and_true, true_and, and_assoc, exists_eq_left, exists_eq_left', exists_eq_right, exists_eq_right', exists_and_left, exists_const, if_true, if_false, Bool.false_eq_true, reduceCtorEq, put_same, put_put, Dt.int.injEq, Dt.bl.injEq, Dt.adr.injEq, Dt.tup.injEq, Dt.lst.injEq, Dt.str.injEq, decide_eq_true_eq, Bool.not_true, Bool.not_false, T_told_by, g1]
          exact k
        | cons w r =>
          simp only [List.map_cons] at g1
          have hz : ¬ ((r.length : Int) + 1 = 0) := by omega
          by_cases c3 : w / 16 = 3
          · simp only [toldM, c3, if_true] at h
            rcases r with _ | ⟨a, _ | ⟨b, r⟩⟩
            · cases h
              simp only [List.map_nil] at g1
              simp [sSeq, sIf, sAsg, sRet, sExpr, sNext, sPar, sRaise, sRetN, sDead, ofP, ofB, ofL, pVar, pC, pOp, pUn, pB, pT, pTup, pLst, aNil, aCons, bAnd_eq, bOr_eq, bNot, pIf_eq, pCall, pFn, oLen,  dAt, dFld, dDic, oIsN, oNotN, isN, asB_bl, dI, dI2, gNm, gFld, gTup2, gKey, gIx, tTupE, tLstE, tLstM, tACons, tCallF, tMethF, tMakeF, tBin, tListM, tApp, tDic, tAll, tIfE, tAndB, tOrB, tTst, tB1, tNotB, setF, startD, oList, vAnd_eq, vOr_eq, vNot, dTru, tRng1, oAll, tUnE, tDead, bDead, sFldU, sNmU, pSl, oSome, oNone, oMin, oMax, asI, pCh_eq, cutD_mid, cutD_to, cutD_from, band15, band255, oInt_int,
 dLst_lst, dTup_tup, dLen_lst, dLen_tup, dSeq_lst, dSeq_tup, dSeq_scr, dIx_lst, dIx_tup, at0, at1, at2, at3, at4, at5, at6, at7, dEq_int, dEq_str, dEq_bl, dEq_nn, dEq_ni, dEq_in, dEq_ns, dEq_sn, dEq_is, dEq_si, dNe_int, dNe_str, dNe_ni, dNe_in, dAdd_int,
 isi_bool_non, isi_bool_bl, isi_bool_int, isi_bool_str, isi_bool_lst, isi_bool_tup, isi_bool_dic, isi_int_non, isi_int_bl, isi_int_int, isi_int_str, isi_int_lst, isi_int_tup, isi_int_dic, isi_str_non, isi_str_bl, isi_str_int, isi_str_str, isi_str_lst, isi_str_tup, isi_str_dic, isi_list_non, isi_list_bl, isi_list_int, isi_list_str, isi_list_lst, isi_list_tup, isi_list_dic, isi_tuple_non, isi_tuple_bl, isi_tuple_int, isi_tuple_str, isi_tuple_lst, isi_tuple_tup, isi_tuple_dic, isi_dict_non, isi_dict_bl, isi_dict_int, isi_dict_str, isi_dict_lst, isi_dict_tup, isi_dict_dic,
 List.map_cons, List.map_nil, List.replicate, List.cons_append, List.nil_append, List.append_nil, List.getElem?_cons_zero, List.getElem?_cons_succ, List.getElem?_nil, List.set_cons_zero, List.set_cons_succ, List.set_nil, List.length_cons, List.length_nil, Option.bind_some, Option.bind_none, Option.map_some, Option.map_none, Option.some.injEq, List.cons.injEq, and_true, true_and, and_assoc, exists_eq_left, exists_eq_left', exists_eq_right, exists_eq_right', exists_and_left, exists_const, if_true, if_false, Bool.false_eq_true, reduceCtorEq, put_same, put_put, Dt.int.injEq, Dt.bl.injEq, Dt.adr.injEq, Dt.tup.injEq, Dt.lst.injEq, Dt.str.injEq, decide_eq_true_eq, Bool.not_true, Bool.not_false, T_told_by, g1, c3]
              exact k
            · cases h
              simp only [List.map_cons, List.map_nil] at g1
              simp [sSeq, sIf, sAsg, sRet, sExpr, sNext, sPar, sRaise, sRetN, sDead, ofP, ofB, ofL, pVar, pC, pOp, pUn, pB, pT, pTup, pLst, aNil, aCons, bAnd_eq, bOr_eq, bNot, pIf_eq, pCall, pFn, oLen,  dAt, dFld, dDic, oIsN, oNotN, isN, asB_bl, dI, dI2, gNm, gFld, gTup2, gKey, gIx, tTupE, tLstE, tLstM, tACons, tCallF, tMethF, tMakeF, tBin, tListM, tApp, tDic, tAll, tIfE, tAndB, tOrB, tTst, tB1, tNotB, setF, startD, oList, vAnd_eq, vOr_eq, vNot, dTru, tRng1, oAll, tUnE, tDead, bDead, sFldU, sNmU, pSl, oSome, oNone, oMin, oMax, asI, pCh_eq, cutD_mid, cutD_to, cutD_from, band15, band255, oInt_int,
 dLst_lst, dTup_tup, dLen_lst, dLen_tup, dSeq_lst, dSeq_tup, dSeq_scr, dIx_lst, dIx_tup, at0, at1, at2, at3, at4, at5, at6, at7, dEq_int, dEq_str, dEq_bl, dEq_nn, dEq_ni, dEq_in, dEq_ns, dEq_sn, dEq_is, dEq_si, dNe_int, dNe_str, dNe_ni, dNe_in, dAdd_int,
 isi_bool_non, isi_bool_bl, isi_bool_int, isi_bool_str, isi_bool_lst, isi_bool_tup, isi_bool_dic, isi_int_non, isi_int_bl, isi_int_int, isi_int_str, isi_int_lst, isi_int_tup, isi_int_dic, isi_str_non, isi_str_bl, isi_str_int, isi_str_str, isi_str_lst, isi_str_tup, isi_str_dic, isi_list_non, isi_list_bl, isi_list_int, isi_list_str, isi_list_lst, isi_list_tup, isi_list_dic, isi_tuple_non, isi_tuple_bl, isi_tuple_int, isi_tuple_str, isi_tuple_lst, isi_tuple_tup, isi_tuple_dic, isi_dict_non, isi_dict_bl, isi_dict_int, isi_dict_str, isi_dict_lst, isi_dict_tup, isi_dict_dic,
 List.map_cons, List.map_nil, List.replicate, List.cons_append, List.nil_append, List.append_nil, List.getElem?_cons_zero, List.getElem?_cons_succ, List.getElem?_nil, List.set_cons_zero, List.set_cons_succ, List.set_nil, List.length_cons, List.length_nil, Option.bind_some, Option.bind_none, Option.map_some, Option.map_none, Option.some.injEq, List.cons.injEq, and_true, true_and, and_assoc, exists_eq_left, exists_eq_left', exists_eq_right, exists_eq_right', exists_and_left, exists_const, if_true, if_false, Bool.false_eq_true, reduceCtorEq, put_same, put_put, Dt.int.injEq, Dt.bl.injEq, Dt.adr.injEq, Dt.tup.injEq, Dt.lst.injEq, Dt.str.injEq, decide_eq_true_eq, Bool.not_true, Bool.not_false, T_told_by, g1, c3]
              exact k
            · cases h
              simp only [List.map_cons, List.map_nil] at g1
              have h9 : (3 : Int) ≤ (r.length : Int) + 1 + 1 + 1 := by omega
              have h8 : ¬ ((r.length : Int) + 1 + 1 + 1 = 0) := by omega
              simp [sSeq, sIf, sAsg, sRet, sExpr, sNext, sPar, sRaise, sRetN, sDead, ofP, ofB, ofL, pVar, pC, pOp, pUn, pB, pT, pTup, pLst, aNil, aCons, bAnd_eq, bOr_eq, bNot, pIf_eq, pCall, pFn, oLen,  dAt, dFld, dDic, oIsN, oNotN, isN, asB_bl, dI, dI2, gNm, gFld, gTup2, gKey, gIx, tTupE, tLstE, tLstM, tACons, tCallF, tMethF, tMakeF, tBin, tListM, tApp, tDic, tAll, tIfE, tAndB, tOrB, tTst, tB1, tNotB, setF, startD, oList, vAnd_eq, vOr_eq, vNot, dTru, tRng1, oAll, tUnE, tDead, bDead, sFldU, sNmU, pSl, oSome, oNone, oMin, oMax, asI, pCh_eq, cutD_mid, cutD_to, cutD_from, band15, band255, oInt_int,
 dLst_lst, dTup_tup, dLen_lst, dLen_tup, dSeq_lst, dSeq_tup, dSeq_scr, dIx_lst, dIx_tup, at0, at1, at2, at3, at4, at5, at6, at7, dEq_int, dEq_str, dEq_bl, dEq_nn, dEq_ni, dEq_in, dEq_ns, dEq_sn, dEq_is, dEq_si, dNe_int, dNe_str, dNe_ni, dNe_in, dAdd_int,
 isi_bool_non, isi_bool_bl, isi_bool_int, isi_bool_str, isi_bool_lst, isi_bool_tup, isi_bool_dic, isi_int_non, isi_int_bl, isi_int_int, isi_int_str, isi_int_lst, isi_int_tup, isi_int_dic, isi_str_non, isi_str_bl, isi_str_int, isi_str_str, isi_str_lst, isi_str_tup, isi_str_dic, isi_list_non, isi_list_bl, isi_list_int, isi_list_str, isi_list_lst, isi_list_tup, isi_list_dic, isi_tuple_non, isi_tuple_bl, isi_tuple_int, isi_tuple_str, isi_tuple_lst, isi_tuple_tup, isi_tuple_dic, isi_dict_non, isi_dict_bl, isi_dict_int, isi_dict_str, isi_dict_lst, isi_dict_tup, isi_dict_dic,
 List.map_cons, List.map_nil, List.replicate, List.cons_append, List.nil_append, List.append_nil, List.getElem?_cons_zero, List.getElem?_cons_succ, List.getElem?_nil, List.set_cons_zero, List.set_cons_succ, List.set_nil, List.length_cons, List.length_nil, Option.bind_some, Option.bind_none, Option.map_some, Option.map_none, Option.some.injEq, List.cons.injEq, and_true, true_and, and_assoc, exists_eq_left, exists_eq_left', exists_eq_right, exists_eq_right', exists_and_left, exists_const, if_true, if_false, Bool.false_eq_true, reduceCtorEq, put_same, put_put, Dt.int.injEq, Dt.bl.injEq, Dt.adr.injEq, Dt.tup.injEq, Dt.lst.injEq, Dt.str.injEq, decide_eq_true_eq, Bool.not_true, Bool.not_false, T_told_by, g1, c3, h9, h8]
              exact k
          · simp only [toldM, c3, if_false] at h
            by_cases c2 : w / 16 = 2 ∧ r ≠ []
            · rw [if_pos c2] at h
              cases h
              obtain ⟨c2, c4⟩ := c2
              have h9 : (1 : Int) < (r.length : Int) + 1 := by
                have := List.length_pos_iff.mpr c4
                omega
              simp [sSeq, sIf, sAsg, sRet, sExpr, sNext, sPar, sRaise, sRetN, sDead, ofP, ofB, ofL, pVar, pC, pOp, pUn, pB, pT, pTup, pLst, aNil, aCons, bAnd_eq, bOr_eq, bNot, pIf_eq, pCall, pFn, oLen,  dAt, dFld, dDic, oIsN, oNotN, isN, asB_bl, dI, dI2, gNm, gFld, gTup2, gKey, gIx, tTupE, tLstE, tLstM, tACons, tCallF, tMethF, tMakeF, tBin, tListM, tApp, tDic, tAll, tIfE, tAndB, tOrB, tTst, tB1, tNotB, setF, startD, oList, vAnd_eq, vOr_eq, vNot, dTru, tRng1, oAll, tUnE, tDead, bDead, sFldU, sNmU, pSl, oSome, oNone, oMin, oMax, asI, pCh_eq, cutD_mid, cutD_to, cutD_from, band15, band255, oInt_int,
 dLst_lst, dTup_tup, dLen_lst, dLen_tup, dSeq_lst, dSeq_tup, dSeq_scr, dIx_lst, dIx_tup, at0, at1, at2, at3, at4, at5, at6, at7, dEq_int, dEq_str, dEq_bl, dEq_nn, dEq_ni, dEq_in, dEq_ns, dEq_sn, dEq_is, dEq_si, dNe_int, dNe_str, dNe_ni, dNe_in, dAdd_int,
 isi_bool_non, isi_bool_bl, isi_bool_int, isi_bool_str, isi_bool_lst, isi_bool_tup, isi_bool_dic, isi_int_non, isi_int_bl, isi_int_int, isi_int_str, isi_int_lst, isi_int_tup, isi_int_dic, isi_str_non, isi_str_bl, isi_str_int, isi_str_str, isi_str_lst, isi_str_tup, isi_str_dic, isi_list_non, isi_list_bl, isi_list_int, isi_list_str, isi_list_lst, isi_list_tup, isi_list_dic, isi_tuple_non, isi_tuple_bl, isi_tuple_int, isi_tuple_str, isi_tuple_lst, isi_tuple_tup, isi_tuple_dic, isi_dict_non, isi_dict_bl, isi_dict_int, isi_dict_str, isi_dict_lst, isi_dict_tup, isi_dict_dic,
 List.map_cons, List.map_nil, List.replicate, List.cons_append, List.nil_append, List.append_nil, List.getElem?_cons_zero, List.getElem?_cons_succ, List.getElem?_nil, List.set_cons_zero, List.set_cons_succ, List.set_nil, List.length_cons, List.length_nil, Option.bind_some, Option.bind_none, Option.map_some, Option.map_none, Option.some.injEq, List.cons.injEq, and_true, true_and, and_assoc, exists_eq_left, exists_eq_left', exists_eq_right, exists_eq_right', exists_and_left, exists_const, if_true, if_false, Bool.false_eq_true, reduceCtorEq, put_same, put_put, Dt.int.injEq, Dt.bl.injEq, Dt.adr.injEq, Dt.tup.injEq, Dt.lst.injEq, Dt.str.injEq, decide_eq_true_eq, Bool.not_true, Bool.not_false, T_told_by, g1, c2, h9, hz]
              exact k
            · rw [if_neg c2] at h
              split at h
              · rename_i c5
                obtain ⟨rfl, c6⟩ := c5
                cases h
                rcases r with _ | ⟨a, _ | ⟨b, _ | ⟨_, r⟩⟩⟩
                · simp at c6
                · simp at c6
                · simp only [List.map_cons, List.map_nil] at g1
                  simp [sSeq, sIf, sAsg, sRet, sExpr, sNext, sPar, sRaise, sRetN, sDead, ofP, ofB, ofL, pVar, pC, pOp, pUn, pB, pT, pTup, pLst, aNil, aCons, bAnd_eq, bOr_eq, bNot, pIf_eq, pCall, pFn, oLen,  dAt, dFld, dDic, oIsN, oNotN, isN, asB_bl, dI, dI2, gNm, gFld, gTup2, gKey, gIx, tTupE, tLstE, tLstM, tACons, tCallF, tMethF, tMakeF, tBin, tListM, tApp, tDic, tAll, tIfE, tAndB, tOrB, tTst, tB1, tNotB, setF, startD, oList, vAnd_eq, vOr_eq, vNot, dTru, tRng1, oAll, tUnE, tDead, bDead, sFldU, sNmU, pSl, oSome, oNone, oMin, oMax, asI, pCh_eq, cutD_mid, cutD_to, cutD_from, band15, band255, oInt_int,
 dLst_lst, dTup_tup, dLen_lst, dLen_tup, dSeq_lst, dSeq_tup, dSeq_scr, dIx_lst, dIx_tup, at0, at1, at2, at3, at4, at5, at6, at7, dEq_int, dEq_str, dEq_bl, dEq_nn, dEq_ni, dEq_in, dEq_ns, dEq_sn, dEq_is, dEq_si, dNe_int, dNe_str, dNe_ni, dNe_in, dAdd_int,
 isi_bool_non, isi_bool_bl, isi_bool_int, isi_bool_str, isi_bool_lst, isi_bool_tup, isi_bool_dic, isi_int_non, isi_int_bl, isi_int_int, isi_int_str, isi_int_lst, isi_int_tup, isi_int_dic, isi_str_non, isi_str_bl, isi_str_int, isi_str_str, isi_str_lst, isi_str_tup, isi_str_dic, isi_list_non, isi_list_bl, isi_list_int, isi_list_str, isi_list_lst, isi_list_tup, isi_list_dic, isi_tuple_non, isi_tuple_bl, isi_tuple_int, isi_tuple_str, isi_tuple_lst, isi_tuple_tup, isi_tuple_dic, isi_dict_non, isi_dict_bl, isi_dict_int, isi_dict_str, isi_dict_lst, isi_dict_tup, isi_dict_dic,
 List.map_cons, List.map_nil, List.replicate, List.cons_append, List.nil_append, List.append_nil, List.getElem?_cons_zero, List.getElem?_cons_succ, List.getElem?_nil, List.set_cons_zero, List.set_cons_succ, List.set_nil, List.length_cons, List.length_nil, Option.bind_some, Option.bind_none, Option.map_some, Option.map_none, Option.some.injEq, List.cons.injEq, and_true, true_and, and_assoc, exists_eq_left, exists_eq_left', exists_eq_right, exists_eq_right', exists_and_left, exists_const, if_true, if_false, Bool.false_eq_true, reduceCtorEq, put_same, put_put, Dt.int.injEq, Dt.bl.injEq, Dt.adr.injEq, Dt.tup.injEq, Dt.lst.injEq, Dt.str.injEq, decide_eq_true_eq, Bool.not_true, Bool.not_false, T_told_by, g1]
                  exact k
                · simp at c6
              · cases h
      · cases h
  · cases h
theorem len_Clock_init (A : Ad) : ∀ ds S Φ Ψ, sp_Clock_init A ds S Φ Ψ → ds.length = 1 := fun ds S Φ Ψ ⟨_, e, _⟩ => by rw [e]; rfl
theorem law_Clock_init (A : Ad) : ∀ ds S Φ Ψ, sp_Clock_init A ds S Φ Ψ → T_Clock_init A (LE0 Φ Ψ) (startD 0 ds) S := by
  rintro ds S Φ Ψ ⟨a, rfl, h, k⟩
  simp [sSeq, sIf, sAsg, sRet, sExpr, sNext, sPar, sRaise, sRetN, sDead, ofP, ofB, ofL, pVar, pC, pOp, pUn, pB, pT, pTup, pLst, aNil, aCons, bAnd_eq, bOr_eq, bNot, pIf_eq, pCall, pFn, oLen,  dAt, dFld, dDic, oIsN, oNotN, isN, asB_bl, dI, dI2, gNm, gFld, gTup2, gKey, gIx, tTupE, tLstE, tLstM, tACons, tCallF, tMethF, tMakeF, tBin, tListM, tApp, tDic, tAll, tIfE, tAndB, tOrB, tTst, tB1, tNotB, setF, startD, oList, vAnd_eq, vOr_eq, vNot, dTru, tRng1, oAll, tUnE, tDead, bDead, sFldU, sNmU, pSl, oSome, oNone, oMin, oMax, asI, pCh_eq, cutD_mid, cutD_to, cutD_from, band15, band255, oInt_int,
 dLst_lst, dTup_tup, dLen_lst, dLen_tup, dSeq_lst, dSeq_tup, dSeq_scr, dIx_lst, dIx_tup, at0, at1, at2, at3, at4, at5, at6, at7, dEq_int, dEq_str, dEq_bl, dEq_nn, dEq_ni, dEq_in, dEq_ns, dEq_sn, dEq_is, dEq_si, dNe_int, dNe_str, dNe_ni, dNe_in, dAdd_int,
 isi_bool_non, isi_bool_bl, isi_bool_int, isi_bool_str, isi_bool_lst, isi_bool_tup, isi_bool_dic, isi_int_non, isi_int_bl, isi_int_int, isi_int_str, isi_int_lst, isi_int_tup, isi_int_dic, isi_str_non, isi_str_bl, isi_str_int, isi_str_str, isi_str_lst, isi_str_tup, isi_str_dic, isi_list_non, isi_list_bl, isi_list_int, isi_list_str, isi_list_lst, isi_list_tup, isi_list_dic, isi_tuple_non, isi_tuple_bl, isi_tuple_int, isi_tuple_str, isi_tuple_lst, isi_tuple_tup, isi_tuple_dic, isi_dict_non, isi_dict_bl, isi_dict_int, isi_dict_str, isi_dict_lst, isi_dict_tup, isi_dict_dic,
 List.map_cons, List.map_nil, List.replicate, List.cons_append, List.nil_append, List.append_nil, List.getElem?_cons_zero, List.getElem?_cons_succ, List.getElem?_nil, List.set_cons_zero, List.set_cons_succ, List.set_nil, List.length_cons, List.length_nil, Option.bind_some, Option.bind_none, Option.map_some, Option.map_none, Option.some.injEq, List.cons.injEq, and_true, true_and, and_assoc, exists_eq_left, exists_eq_left', exists_eq_right, exists_eq_right', exists_and_left, exists_const, if_true, if_false, Bool.false_eq_true, reduceCtorEq, put_same, put_put, Dt.int.injEq, Dt.bl.injEq, Dt.adr.injEq, Dt.tup.injEq, Dt.lst.injEq, Dt.str.injEq, decide_eq_true_eq, Bool.not_true, Bool.not_false, T_Clock_init, h]
  exact k
theorem len_Clock_pass_to (A : Ad) : ∀ ds S Φ Ψ, sp_Clock_pass_to A ds S Φ Ψ → ds.length = 2 := fun ds S Φ Ψ ⟨_, _, _, e, _⟩ => by rw [e]; rfl
theorem law_Clock_pass_to (A : Ad) : ∀ ds S Φ Ψ, sp_Clock_pass_to A ds S Φ Ψ → T_Clock_pass_to A (LE0 Φ Ψ) (startD 0 ds) S := by
  rintro ds S Φ Ψ ⟨a, t, n, rfl, h, k1, k2⟩
  by_cases c : n < t
  · simp [sSeq, sIf, sAsg, sRet, sExpr, sNext, sPar, sRaise, sRetN, sDead, ofP, ofB, ofL, pVar, pC, pOp, pUn, pB, pT, pTup, pLst, aNil, aCons, bAnd_eq, bOr_eq, bNot, pIf_eq, pCall, pFn, oLen,  dAt, dFld, dDic, oIsN, oNotN, isN, asB_bl, dI, dI2, gNm, gFld, gTup2, gKey, gIx, tTupE, tLstE, tLstM, tACons, tCallF, tMethF, tMakeF, tBin, tListM, tApp, tDic, tAll, tIfE, tAndB, tOrB, tTst, tB1, tNotB, setF, startD, oList, vAnd_eq, vOr_eq, vNot, dTru, tRng1, oAll, tUnE, tDead, bDead, sFldU, sNmU, pSl, oSome, oNone, oMin, oMax, asI, pCh_eq, cutD_mid, cutD_to, cutD_from, band15, band255, oInt_int,
 dLst_lst, dTup_tup, dLen_lst, dLen_tup, dSeq_lst, dSeq_tup, dSeq_scr, dIx_lst, dIx_tup, at0, at1, at2, at3, at4, at5, at6, at7, dEq_int, dEq_str, dEq_bl, dEq_nn, dEq_ni, dEq_in, dEq_ns, dEq_sn, dEq_is, dEq_si, dNe_int, dNe_str, dNe_ni, dNe_in, dAdd_int,
 isi_bool_non, isi_bool_bl, isi_bool_int, isi_bool_str, isi_bool_lst, isi_bool_tup, isi_bool_dic, isi_int_non, isi_int_bl, isi_int_int, isi_int_str, isi_int_lst, isi_int_tup, isi_int_dic, isi_str_non, isi_str_bl, isi_str_int, isi_str_str, isi_str_lst, isi_str_tup, isi_str_dic, isi_list_non, isi_list_bl, isi_list_int, isi_list_str, isi_list_lst, isi_list_tup, isi_list_dic, isi_tuple_non, isi_tuple_bl, isi_tuple_int, isi_tuple_str, isi_tuple_lst, isi_tuple_tup, isi_tuple_dic, isi_dict_non, isi_dict_bl, isi_dict_int, isi_dict_str, isi_dict_lst, isi_dict_tup, isi_dict_dic,
 List.map_cons, List.map_nil, List.replicate, List.cons_append, List.nil_append, List.append_nil, List.getElem?_cons_zero, List.getElem?_cons_succ, List.getElem?_nil, List.set_cons_zero, List.set_cons_succ, List.set_nil, List.length_cons, List.length_nil, Option.bind_some, Option.bind_none, Option.map_some, Option.map_none, Option.some.injEq, List.cons.injEq, and_true, true_and, and_assoc, exists_eq_left, exists_eq_left', exists_eq_right, exists_eq_right', exists_and_left, exists_const, if_true, if_false, Bool.false_eq_true, reduceCtorEq, put_same, put_put, Dt.int.injEq, Dt.bl.injEq, Dt.adr.injEq, Dt.tup.injEq, Dt.lst.injEq, Dt.str.injEq, decide_eq_true_eq, Bool.not_true, Bool.not_false, T_Clock_pass_to, h, c]
    exact k1 c
  · simp [sSeq, sIf, sAsg, sRet, sExpr, sNext, sPar, sRaise, sRetN, sDead, ofP, ofB, ofL, pVar, pC, pOp, pUn, pB, pT, pTup, pLst, aNil, aCons, bAnd_eq, bOr_eq, bNot, pIf_eq, pCall, pFn, oLen,  dAt, dFld, dDic, oIsN, oNotN, isN, asB_bl, dI, dI2, gNm, gFld, gTup2, gKey, gIx, tTupE, tLstE, tLstM, tACons, tCallF, tMethF, tMakeF, tBin, tListM, tApp, tDic, tAll, tIfE, tAndB, tOrB, tTst, tB1, tNotB, setF, startD, oList, vAnd_eq, vOr_eq, vNot, dTru, tRng1, oAll, tUnE, tDead, bDead, sFldU, sNmU, pSl, oSome, oNone, oMin, oMax, asI, pCh_eq, cutD_mid, cutD_to, cutD_from, band15, band255, oInt_int,
 dLst_lst, dTup_tup, dLen_lst, dLen_tup, dSeq_lst, dSeq_tup, dSeq_scr, dIx_lst, dIx_tup, at0, at1, at2, at3, at4, at5, at6, at7, dEq_int, dEq_str, dEq_bl, dEq_nn, dEq_ni, dEq_in, dEq_ns, dEq_sn, dEq_is, dEq_si, dNe_int, dNe_str, dNe_ni, dNe_in, dAdd_int,
 isi_bool_non, isi_bool_bl, isi_bool_int, isi_bool_str, isi_bool_lst, isi_bool_tup, isi_bool_dic, isi_int_non, isi_int_bl, isi_int_int, isi_int_str, isi_int_lst, isi_int_tup, isi_int_dic, isi_str_non, isi_str_bl, isi_str_int, isi_str_str, isi_str_lst, isi_str_tup, isi_str_dic, isi_list_non, isi_list_bl, isi_list_int, isi_list_str, isi_list_lst, isi_list_tup, isi_list_dic, isi_tuple_non, isi_tuple_bl, isi_tuple_int, isi_tuple_str, isi_tuple_lst, isi_tuple_tup, isi_tuple_dic, isi_dict_non, isi_dict_bl, isi_dict_int, isi_dict_str, isi_dict_lst, isi_dict_tup, isi_dict_dic,
 List.map_cons, List.map_nil, List.replicate, List.cons_append, List.nil_append, List.append_nil, List.getElem?_cons_zero, List.getElem?_cons_succ, List.getElem?_nil, List.set_cons_zero, List.set_cons_succ, List.set_nil, List.length_cons, List.length_nil, Option.bind_some, Option.bind_none, Option.map_some, Option.map_none, Option.some.injEq, List.cons.injEq, and_true, true_and, and_assoc, exists_eq_left, exists_eq_left', exists_eq_right, exists_eq_right', exists_and_left, exists_const, if_true, if_false, Bool.false_eq_true, reduceCtorEq, put_same, put_put, Dt.int.injEq, Dt.bl.injEq, Dt.adr.injEq, Dt.tup.injEq, Dt.lst.injEq, Dt.str.injEq, decide_eq_true_eq, Bool.not_true, Bool.not_false, T_Clock_pass_to, h, c]
    exact k2 c
theorem len_Sender_due (A : Ad) : ∀ ds S Φ Ψ, sp_Sender_due A ds S Φ Ψ → ds.length = 1 := fun ds S Φ Ψ ⟨_, _, _, e, _⟩ => by rw [e]; rfl
theorem law_Sender_due (A : Ad) : ∀ ds S Φ Ψ, sp_Sender_due A ds S Φ Ψ → T_Sender_due A (LE0 Φ Ψ) (startD 0 ds) S := by
  rintro ds S Φ Ψ ⟨a, c, m, rfl, ⟨⟨p, h, _⟩, _⟩, k⟩
  simp [sSeq, sIf, sAsg, sRet, sExpr, sNext, sPar, sRaise, sRetN, sDead, ofP, ofB, ofL, pVar, pC, pOp, pUn, pB, pT, pTup, pLst, aNil, aCons, bAnd_eq, bOr_eq, bNot, pIf_eq, pCall, pFn, oLen,  dAt, dFld, dDic, oIsN, oNotN, isN, asB_bl, dI, dI2, gNm, gFld, gTup2, gKey, gIx, tTupE, tLstE, tLstM, tACons, tCallF, tMethF, tMakeF, tBin, tListM, tApp, tDic, tAll, tIfE, tAndB, tOrB, tTst, tB1, tNotB, setF, startD, oList, vAnd_eq, vOr_eq, vNot, dTru, tRng1, oAll, tUnE, tDead, bDead, sFldU, sNmU, pSl, oSome, oNone, oMin, oMax, asI, pCh_eq, cutD_mid, cutD_to, cutD_from, band15, band255, oInt_int,
 dLst_lst, dTup_tup, dLen_lst, dLen_tup, dSeq_lst, dSeq_tup, dSeq_scr, dIx_lst, dIx_tup, at0, at1, at2, at3, at4, at5, at6, at7, dEq_int, dEq_str, dEq_bl, dEq_nn, dEq_ni, dEq_in, dEq_ns, dEq_sn, dEq_is, dEq_si, dNe_int, dNe_str, dNe_ni, dNe_in, dAdd_int,
 isi_bool_non, isi_bool_bl, isi_bool_int, isi_bool_str, isi_bool_lst, isi_bool_tup, isi_bool_dic, isi_int_non, isi_int_bl, isi_int_int, isi_int_str, isi_int_lst, isi_int_tup, isi_int_dic, isi_str_non, isi_str_bl, isi_str_int, isi_str_str, isi_str_lst, isi_str_tup, isi_str_dic, isi_list_non, isi_list_bl, isi_list_int, isi_list_str, isi_list_lst, isi_list_tup, isi_list_dic, isi_tuple_non, isi_tuple_bl, isi_tuple_int, isi_tuple_str, isi_tuple_lst, isi_tuple_tup, isi_tuple_dic, isi_dict_non, isi_dict_bl, isi_dict_int, isi_dict_str, isi_dict_lst, isi_dict_tup, isi_dict_dic,
 List.map_cons, List.map_nil, List.replicate, List.cons_append, List.nil_append, List.append_nil, List.getElem?_cons_zero, List.getElem?_cons_succ, List.getElem?_nil, List.set_cons_zero, List.set_cons_succ, List.set_nil, List.length_cons, List.length_nil, Option.bind_some, Option.bind_none, Option.map_some, Option.map_none, Option.some.injEq, List.cons.injEq, and_true, true_and, and_assoc, exists_eq_left, exists_eq_left', exists_eq_right, exists_eq_right', exists_and_left, exists_const, if_true, if_false, Bool.false_eq_true, reduceCtorEq, put_same, put_put, Dt.int.injEq, Dt.bl.injEq, Dt.adr.injEq, Dt.tup.injEq, Dt.lst.injEq, Dt.str.injEq, decide_eq_true_eq, Bool.not_true, Bool.not_false, T_Sender_due, h]
  exact k
theorem len_Sender_end (A : Ad) : ∀ ds S Φ Ψ, sp_Sender_end A ds S Φ Ψ → ds.length = 2 := fun ds S Φ Ψ ⟨_, _, _, _, _, _, _, _, _, _, _, e, _⟩ => by rw [e]; rfl
theorem law_Sender_end (A : Ad) : ∀ ds S Φ Ψ, sp_Sender_end A ds S Φ Ψ → T_Sender_end A (LE0 Φ Ψ) (startD 0 ds) S := by
  rintro ds S Φ Ψ ⟨a, st, d0, d1, d2, d3, d4, d5, d6, d7, d8, rfl, h, k⟩
  simp [sSeq, sIf, sAsg, sRet, sExpr, sNext, sPar, sRaise, sRetN, sDead, ofP, ofB, ofL, pVar, pC, pOp, pUn, pB, pT, pTup, pLst, aNil, aCons, bAnd_eq, bOr_eq, bNot, pIf_eq, pCall, pFn, oLen,  dAt, dFld, dDic, oIsN, oNotN, isN, asB_bl, dI, dI2, gNm, gFld, gTup2, gKey, gIx, tTupE, tLstE, tLstM, tACons, tCallF, tMethF, tMakeF, tBin, tListM, tApp, tDic, tAll, tIfE, tAndB, tOrB, tTst, tB1, tNotB, setF, startD, oList, vAnd_eq, vOr_eq, vNot, dTru, tRng1, oAll, tUnE, tDead, bDead, sFldU, sNmU, pSl, oSome, oNone, oMin, oMax, asI, pCh_eq, cutD_mid, cutD_to, cutD_from, band15, band255, oInt_int,
 dLst_lst, dTup_tup, dLen_lst, dLen_tup, dSeq_lst, dSeq_tup, dSeq_scr, dIx_lst, dIx_tup, at0, at1, at2, at3, at4, at5, at6, at7, dEq_int, dEq_str, dEq_bl, dEq_nn, dEq_ni, dEq_in, dEq_ns, dEq_sn, dEq_is, dEq_si, dNe_int, dNe_str, dNe_ni, dNe_in, dAdd_int,
 isi_bool_non, isi_bool_bl, isi_bool_int, isi_bool_str, isi_bool_lst, isi_bool_tup, isi_bool_dic, isi_int_non, isi_int_bl, isi_int_int, isi_int_str, isi_int_lst, isi_int_tup, isi_int_dic, isi_str_non, isi_str_bl, isi_str_int, isi_str_str, isi_str_lst, isi_str_tup, isi_str_dic, isi_list_non, isi_list_bl, isi_list_int, isi_list_str, isi_list_lst, isi_list_tup, isi_list_dic, isi_tuple_non, isi_tuple_bl, isi_tuple_int, isi_tuple_str, isi_tuple_lst, isi_tuple_tup, isi_tuple_dic, isi_dict_non, isi_dict_bl, isi_dict_int, isi_dict_str, isi_dict_lst, isi_dict_tup, isi_dict_dic,
 List.map_cons, List.map_nil, List.replicate, List.cons_append, List.nil_append, List.append_nil, List.getElem?_cons_zero, List.getElem?_cons_succ, List.getElem?_nil, List.set_cons_zero, List.set_cons_succ, List.set_nil, List.length_cons, List.length_nil, Option.bind_some, Option.bind_none, Option.map_some, Option.map_none, Option.some.injEq, List.cons.injEq, and_true, true_and, and_assoc, exists_eq_left, exists_eq_left', exists_eq_right, exists_eq_right', exists_and_left, exists_const, if_true, if_false, Bool.false_eq_true, reduceCtorEq, put_same, put_put, Dt.int.injEq, Dt.bl.injEq, Dt.adr.injEq, Dt.tup.injEq, Dt.lst.injEq, Dt.str.injEq, decide_eq_true_eq, Bool.not_true, Bool.not_false, T_Sender_end, h]
  exact k
theorem len_Sender_init (A : Ad) : ∀ ds S Φ Ψ, sp_Sender_init A ds S Φ Ψ → ds.length = 3 := fun ds S Φ Ψ ⟨_, _, _, _, e, _⟩ => by rw [e]; rfl
theorem law_Sender_init (A : Ad) : ∀ ds S Φ Ψ, sp_Sender_init A ds S Φ Ψ → T_Sender_init A (LE0 Φ Ψ) (startD 0 ds) S := by
  rintro ds S Φ Ψ ⟨a, d, ds, w, rfl, hS, hd, hl, k1, k2⟩
  have l1 := dLen_of hd
  by_cases c : 1 ≤ ds.length ∧ ds.length ≤ 4095
  · have c1 : (1 : Int) ≤ ds.length := by omega
    have c2 : (ds.length : Int) ≤ 4095 := by omega
    have k := k2 c
    unfold T_Sender_init
    refine seqI (fun ds' S' => ds' = [some (.adr a), some d, some (.int w)] ∧ S = S') ?_ ?_
    case refine_2 =>
      intro Q hQ
      simp [sSeq, sIf, sAsg, sRet, sExpr, sNext, sPar, sRaise, sRetN, sDead, ofP, ofB, ofL, pVar, pC, pOp, pUn, pB, pT, pTup, pLst, aNil, aCons, bAnd_eq, bOr_eq, bNot, pIf_eq, pCall, pFn, oLen,  dAt, dFld, dDic, oIsN, oNotN, isN, asB_bl, dI, dI2, gNm, gFld, gTup2, gKey, gIx, tTupE, tLstE, tLstM, tACons, tCallF, tMethF, tMakeF, tBin, tListM, tApp, tDic, tAll, tIfE, tAndB, tOrB, tTst, tB1, tNotB, setF, startD, oList, vAnd_eq, vOr_eq, vNot, dTru, tRng1, oAll, tUnE, tDead, bDead, sFldU, sNmU, pSl, oSome, oNone, oMin, oMax, asI, pCh_eq, cutD_mid, cutD_to, cutD_from, band15, band255, oInt_int,
 dLst_lst, dTup_tup, dLen_lst, dLen_tup, dSeq_lst, dSeq_tup, dSeq_scr, dIx_lst, dIx_tup, at0, at1, at2, at3, at4, at5, at6, at7, dEq_int, dEq_str, dEq_bl, dEq_nn, dEq_ni, dEq_in, dEq_ns, dEq_sn, dEq_is, dEq_si, dNe_int, dNe_str, dNe_ni, dNe_in, dAdd_int,
 isi_bool_non, isi_bool_bl, isi_bool_int, isi_bool_str, isi_bool_lst, isi_bool_tup, isi_bool_dic, isi_int_non, isi_int_bl, isi_int_int, isi_int_str, isi_int_lst, isi_int_tup, isi_int_dic, isi_str_non, isi_str_bl, isi_str_int, isi_str_str, isi_str_lst, isi_str_tup, isi_str_dic, isi_list_non, isi_list_bl, isi_list_int, isi_list_str, isi_list_lst, isi_list_tup, isi_list_dic, isi_tuple_non, isi_tuple_bl, isi_tuple_int, isi_tuple_str, isi_tuple_lst, isi_tuple_tup, isi_tuple_dic, isi_dict_non, isi_dict_bl, isi_dict_int, isi_dict_str, isi_dict_lst, isi_dict_tup, isi_dict_dic,
 List.map_cons, List.map_nil, List.replicate, List.cons_append, List.nil_append, List.append_nil, List.getElem?_cons_zero, List.getElem?_cons_succ, List.getElem?_nil, List.set_cons_zero, List.set_cons_succ, List.set_nil, List.length_cons, List.length_nil, Option.bind_some, Option.bind_none, Option.map_some, Option.map_none, Option.some.injEq, List.cons.injEq, and_true, true_and, and_assoc, exists_eq_left, exists_eq_left', exists_eq_right, exists_eq_right', exists_and_left, exists_const, if_true, if_false, Bool.false_eq_true, reduceCtorEq, put_same, put_put, Dt.int.injEq, Dt.bl.injEq, Dt.adr.injEq, Dt.tup.injEq, Dt.lst.injEq, Dt.str.injEq, decide_eq_true_eq, Bool.not_true, Bool.not_false, l1, c1, c2]
      exact hQ _ _ ⟨rfl, rfl⟩
    rintro _ _ ⟨rfl, rfl⟩
    refine seqI (fun ds' S' => ds' = [some (.adr a), some d, some (.int w)] ∧ S' a = some (.ins A.k_Sender [.lst ds]) ∧ Fr S S' a) ?_ ?_
    case refine_2 =>
      intro Q hQ
      simp [sSeq, sIf, sAsg, sRet, sExpr, sNext, sPar, sRaise, sRetN, sDead, ofP, ofB, ofL, pVar, pC, pOp, pUn, pB, pT, pTup, pLst, aNil, aCons, bAnd_eq, bOr_eq, bNot, pIf_eq, pCall, pFn, oLen,  dAt, dFld, dDic, oIsN, oNotN, isN, asB_bl, dI, dI2, gNm, gFld, gTup2, gKey, gIx, tTupE, tLstE, tLstM, tACons, tCallF, tMethF, tMakeF, tBin, tListM, tApp, tDic, tAll, tIfE, tAndB, tOrB, tTst, tB1, tNotB, setF, startD, oList, vAnd_eq, vOr_eq, vNot, dTru, tRng1, oAll, tUnE, tDead, bDead, sFldU, sNmU, pSl, oSome, oNone, oMin, oMax, asI, pCh_eq, cutD_mid, cutD_to, cutD_from, band15, band255, oInt_int,
 dLst_lst, dTup_tup, dLen_lst, dLen_tup, dSeq_lst, dSeq_tup, dSeq_scr, dIx_lst, dIx_tup, at0, at1, at2, at3, at4, at5, at6, at7, dEq_int, dEq_str, dEq_bl, dEq_nn, dEq_ni, dEq_in, dEq_ns, dEq_sn, dEq_is, dEq_si, dNe_int, dNe_str, dNe_ni, dNe_in, dAdd_int,
 isi_bool_non, isi_bool_bl, isi_bool_int, isi_bool_str, isi_bool_lst, isi_bool_tup, isi_bool_dic, isi_int_non, isi_int_bl, isi_int_int, isi_int_str, isi_int_lst, isi_int_tup, isi_int_dic, isi_str_non, isi_str_bl, isi_str_int, isi_str_str, isi_str_lst, isi_str_tup, isi_str_dic, isi_list_non, isi_list_bl, isi_list_int, isi_list_str, isi_list_lst, isi_list_tup, isi_list_dic, isi_tuple_non, isi_tuple_bl, isi_tuple_int, isi_tuple_str, isi_tuple_lst, isi_tuple_tup, isi_tuple_dic, isi_dict_non, isi_dict_bl, isi_dict_int, isi_dict_str, isi_dict_lst, isi_dict_tup, isi_dict_dic,
 List.map_cons, List.map_nil, List.replicate, List.cons_append, List.nil_append, List.append_nil, List.getElem?_cons_zero, List.getElem?_cons_succ, List.getElem?_nil, List.set_cons_zero, List.set_cons_succ, List.set_nil, List.length_cons, List.length_nil, Option.bind_some, Option.bind_none, Option.map_some, Option.map_none, Option.some.injEq, List.cons.injEq, and_true, true_and, and_assoc, exists_eq_left, exists_eq_left', exists_eq_right, exists_eq_right', exists_and_left, exists_const, if_true, if_false, Bool.false_eq_true, reduceCtorEq, put_same, put_put, Dt.int.injEq, Dt.bl.injEq, Dt.adr.injEq, Dt.tup.injEq, Dt.lst.injEq, Dt.str.injEq, decide_eq_true_eq, Bool.not_true, Bool.not_false, dSeq_of hd, hS]
      exact hQ _ _ ⟨rfl, put_same, fr_put⟩
    rintro _ S1 ⟨rfl, hS1, f1⟩
    refine seqI (fun ds' S' => ds' = [some (.adr a), some d, some (.int w)] ∧ S' a = some (.ins A.k_Sender [.lst ds, .int w]) ∧ Fr S S' a) ?_ ?_
    case refine_2 =>
      intro Q hQ
      simp [sSeq, sIf, sAsg, sRet, sExpr, sNext, sPar, sRaise, sRetN, sDead, ofP, ofB, ofL, pVar, pC, pOp, pUn, pB, pT, pTup, pLst, aNil, aCons, bAnd_eq, bOr_eq, bNot, pIf_eq, pCall, pFn, oLen,  dAt, dFld, dDic, oIsN, oNotN, isN, asB_bl, dI, dI2, gNm, gFld, gTup2, gKey, gIx, tTupE, tLstE, tLstM, tACons, tCallF, tMethF, tMakeF, tBin, tListM, tApp, tDic, tAll, tIfE, tAndB, tOrB, tTst, tB1, tNotB, setF, startD, oList, vAnd_eq, vOr_eq, vNot, dTru, tRng1, oAll, tUnE, tDead, bDead, sFldU, sNmU, pSl, oSome, oNone, oMin, oMax, asI, pCh_eq, cutD_mid, cutD_to, cutD_from, band15, band255, oInt_int,
 dLst_lst, dTup_tup, dLen_lst, dLen_tup, dSeq_lst, dSeq_tup, dSeq_scr, dIx_lst, dIx_tup, at0, at1, at2, at3, at4, at5, at6, at7, dEq_int, dEq_str, dEq_bl, dEq_nn, dEq_ni, dEq_in, dEq_ns, dEq_sn, dEq_is, dEq_si, dNe_int, dNe_str, dNe_ni, dNe_in, dAdd_int,
 isi_bool_non, isi_bool_bl, isi_bool_int, isi_bool_str, isi_bool_lst, isi_bool_tup, isi_bool_dic, isi_int_non, isi_int_bl, isi_int_int, isi_int_str, isi_int_lst, isi_int_tup, isi_int_dic, isi_str_non, isi_str_bl, isi_str_int, isi_str_str, isi_str_lst, isi_str_tup, isi_str_dic, isi_list_non, isi_list_bl, isi_list_int, isi_list_str, isi_list_lst, isi_list_tup, isi_list_dic, isi_tuple_non, isi_tuple_bl, isi_tuple_int, isi_tuple_str, isi_tuple_lst, isi_tuple_tup, isi_tuple_dic, isi_dict_non, isi_dict_bl, isi_dict_int, isi_dict_str, isi_dict_lst, isi_dict_tup, isi_dict_dic,
 List.map_cons, List.map_nil, List.replicate, List.cons_append, List.nil_append, List.append_nil, List.getElem?_cons_zero, List.getElem?_cons_succ, List.getElem?_nil, List.set_cons_zero, List.set_cons_succ, List.set_nil, List.length_cons, List.length_nil, Option.bind_some, Option.bind_none, Option.map_some, Option.map_none, Option.some.injEq, List.cons.injEq, and_true, true_and, and_assoc, exists_eq_left, exists_eq_left', exists_eq_right, exists_eq_right', exists_and_left, exists_const, if_true, if_false, Bool.false_eq_true, reduceCtorEq, put_same, put_put, Dt.int.injEq, Dt.bl.injEq, Dt.adr.injEq, Dt.tup.injEq, Dt.lst.injEq, Dt.str.injEq, decide_eq_true_eq, Bool.not_true, Bool.not_false, hS1]
      exact hQ _ _ ⟨rfl, put_same, fun b hb => by rw [put_ne hb]; exact f1 b hb⟩
    clear hS1 f1 S1
    rintro _ S1 ⟨rfl, hS1, f1⟩
    refine seqI (fun ds' S' => ds' = [some (.adr a), some d, some (.int w)] ∧ S' a = some (.ins A.k_Sender [.lst ds, .int w, .str "new"]) ∧ Fr S S' a) ?_ ?_
    case refine_2 =>
      intro Q hQ
      simp [sSeq, sIf, sAsg, sRet, sExpr, sNext, sPar, sRaise, sRetN, sDead, ofP, ofB, ofL, pVar, pC, pOp, pUn, pB, pT, pTup, pLst, aNil, aCons, bAnd_eq, bOr_eq, bNot, pIf_eq, pCall, pFn, oLen,  dAt, dFld, dDic, oIsN, oNotN, isN, asB_bl, dI, dI2, gNm, gFld, gTup2, gKey, gIx, tTupE, tLstE, tLstM, tACons, tCallF, tMethF, tMakeF, tBin, tListM, tApp, tDic, tAll, tIfE, tAndB, tOrB, tTst, tB1, tNotB, setF, startD, oList, vAnd_eq, vOr_eq, vNot, dTru, tRng1, oAll, tUnE, tDead, bDead, sFldU, sNmU, pSl, oSome, oNone, oMin, oMax, asI, pCh_eq, cutD_mid, cutD_to, cutD_from, band15, band255, oInt_int,
 dLst_lst, dTup_tup, dLen_lst, dLen_tup, dSeq_lst, dSeq_tup, dSeq_scr, dIx_lst, dIx_tup, at0, at1, at2, at3, at4, at5, at6, at7, dEq_int, dEq_str, dEq_bl, dEq_nn, dEq_ni, dEq_in, dEq_ns, dEq_sn, dEq_is, dEq_si, dNe_int, dNe_str, dNe_ni, dNe_in, dAdd_int,
 isi_bool_non, isi_bool_bl, isi_bool_int, isi_bool_str, isi_bool_lst, isi_bool_tup, isi_bool_dic, isi_int_non, isi_int_bl, isi_int_int, isi_int_str, isi_int_lst, isi_int_tup, isi_int_dic, isi_str_non, isi_str_bl, isi_str_int, isi_str_str, isi_str_lst, isi_str_tup, isi_str_dic, isi_list_non, isi_list_bl, isi_list_int, isi_list_str, isi_list_lst, isi_list_tup, isi_list_dic, isi_tuple_non, isi_tuple_bl, isi_tuple_int, isi_tuple_str, isi_tuple_lst, isi_tuple_tup, isi_tuple_dic, isi_dict_non, isi_dict_bl, isi_dict_int, isi_dict_str, isi_dict_lst, isi_dict_tup, isi_dict_dic,
 List.map_cons, List.map_nil, List.replicate, List.cons_append, List.nil_append, List.append_nil, List.getElem?_cons_zero, List.getElem?_cons_succ, List.getElem?_nil, List.set_cons_zero, List.set_cons_succ, List.set_nil, List.length_cons, List.length_nil, Option.bind_some, Option.bind_none, Option.map_some, Option.map_none, Option.some.injEq, List.cons.injEq, and_true, true_and, and_assoc, exists_eq_left, exists_eq_left', exists_eq_right, exists_eq_right', exists_and_left, exists_const, if_true, if_false, Bool.false_eq_true, reduceCtorEq, put_same, put_put, Dt.int.injEq, Dt.bl.injEq, Dt.adr.injEq, Dt.tup.injEq, Dt.lst.injEq, Dt.str.injEq, decide_eq_true_eq, Bool.not_true, Bool.not_false, hS1]
      exact hQ _ _ ⟨rfl, put_same, fun b hb => by rw [put_ne hb]; exact f1 b hb⟩
    clear hS1 f1 S1
    rintro _ S1 ⟨rfl, hS1, f1⟩
    refine seqI (fun ds' S' => ds' = [some (.adr a), some d, some (.int w)] ∧ ∃ c, S c = none ∧ c ≠ a ∧ S' a = some (.ins A.k_Sender [.lst ds, .int w, .str "new", .adr c]) ∧ S' c = some (.ins A.k_Clock [.int 0]) ∧ Fr2 S S' a c) ?_ ?_
    case refine_2 =>
      intro Q hQ
      simp [sSeq, sIf, sAsg, sRet, sExpr, sNext, sPar, sRaise, sRetN, sDead, ofP, ofB, ofL, pVar, pC, pOp, pUn, pB, pT, pTup, pLst, aNil, aCons, bAnd_eq, bOr_eq, bNot, pIf_eq, pCall, pFn, oLen,  dAt, dFld, dDic, oIsN, oNotN, isN, asB_bl, dI, dI2, gNm, gFld, gTup2, gKey, gIx, tTupE, tLstE, tLstM, tACons, tCallF, tMethF, tMakeF, tBin, tListM, tApp, tDic, tAll, tIfE, tAndB, tOrB, tTst, tB1, tNotB, setF, startD, oList, vAnd_eq, vOr_eq, vNot, dTru, tRng1, oAll, tUnE, tDead, bDead, sFldU, sNmU, pSl, oSome, oNone, oMin, oMax, asI, pCh_eq, cutD_mid, cutD_to, cutD_from, band15, band255, oInt_int,
 dLst_lst, dTup_tup, dLen_lst, dLen_tup, dSeq_lst, dSeq_tup, dSeq_scr, dIx_lst, dIx_tup, at0, at1, at2, at3, at4, at5, at6, at7, dEq_int, dEq_str, dEq_bl, dEq_nn, dEq_ni, dEq_in, dEq_ns, dEq_sn, dEq_is, dEq_si, dNe_int, dNe_str, dNe_ni, dNe_in, dAdd_int,
 isi_bool_non, isi_bool_bl, isi_bool_int, isi_bool_str, isi_bool_lst, isi_bool_tup, isi_bool_dic, isi_int_non, isi_int_bl, isi_int_int, isi_int_str, isi_int_lst, isi_int_tup, isi_int_dic, isi_str_non, isi_str_bl, isi_str_int, isi_str_str, isi_str_lst, isi_str_tup, isi_str_dic, isi_list_non, isi_list_bl, isi_list_int, isi_list_str, isi_list_lst, isi_list_tup, isi_list_dic, isi_tuple_non, isi_tuple_bl, isi_tuple_int, isi_tuple_str, isi_tuple_lst, isi_tuple_tup, isi_tuple_dic, isi_dict_non, isi_dict_bl, isi_dict_int, isi_dict_str, isi_dict_lst, isi_dict_tup, isi_dict_dic,
 List.map_cons, List.map_nil, List.replicate, List.cons_append, List.nil_append, List.append_nil, List.getElem?_cons_zero, List.getElem?_cons_succ, List.getElem?_nil, List.set_cons_zero, List.set_cons_succ, List.set_nil, List.length_cons, List.length_nil, Option.bind_some, Option.bind_none, Option.map_some, Option.map_none, Option.some.injEq, List.cons.injEq, and_true, true_and, and_assoc, exists_eq_left, exists_eq_left', exists_eq_right, exists_eq_right', exists_and_left, exists_const, if_true, if_false, Bool.false_eq_true, reduceCtorEq, put_same, put_put, Dt.int.injEq, Dt.bl.injEq, Dt.adr.injEq, Dt.tup.injEq, Dt.lst.injEq, Dt.str.injEq, decide_eq_true_eq, Bool.not_true, Bool.not_false, sp_Clock_init]
      intro c hc
      have ne : c ≠ a := fun e => by
        rw [e, hS1] at hc
        cases hc
      simp [sSeq, sIf, sAsg, sRet, sExpr, sNext, sPar, sRaise, sRetN, sDead, ofP, ofB, ofL, pVar, pC, pOp, pUn, pB, pT, pTup, pLst, aNil, aCons, bAnd_eq, bOr_eq, bNot, pIf_eq, pCall, pFn, oLen,  dAt, dFld, dDic, oIsN, oNotN, isN, asB_bl, dI, dI2, gNm, gFld, gTup2, gKey, gIx, tTupE, tLstE, tLstM, tACons, tCallF, tMethF, tMakeF, tBin, tListM, tApp, tDic, tAll, tIfE, tAndB, tOrB, tTst, tB1, tNotB, setF, startD, oList, vAnd_eq, vOr_eq, vNot, dTru, tRng1, oAll, tUnE, tDead, bDead, sFldU, sNmU, pSl, oSome, oNone, oMin, oMax, asI, pCh_eq, cutD_mid, cutD_to, cutD_from, band15, band255, oInt_int,
 dLst_lst, dTup_tup, dLen_lst, dLen_tup, dSeq_lst, dSeq_tup, dSeq_scr, dIx_lst, dIx_tup, at0, at1, at2, at3, at4, at5, at6, at7, dEq_int, dEq_str, dEq_bl, dEq_nn, dEq_ni, dEq_in, dEq_ns, dEq_sn, dEq_is, dEq_si, dNe_int, dNe_str, dNe_ni, dNe_in, dAdd_int,
 isi_bool_non, isi_bool_bl, isi_bool_int, isi_bool_str, isi_bool_lst, isi_bool_tup, isi_bool_dic, isi_int_non, isi_int_bl, isi_int_int, isi_int_str, isi_int_lst, isi_int_tup, isi_int_dic, isi_str_non, isi_str_bl, isi_str_int, isi_str_str, isi_str_lst, isi_str_tup, isi_str_dic, isi_list_non, isi_list_bl, isi_list_int, isi_list_str, isi_list_lst, isi_list_tup, isi_list_dic, isi_tuple_non, isi_tuple_bl, isi_tuple_int, isi_tuple_str, isi_tuple_lst, isi_tuple_tup, isi_tuple_dic, isi_dict_non, isi_dict_bl, isi_dict_int, isi_dict_str, isi_dict_lst, isi_dict_tup, isi_dict_dic,
 List.map_cons, List.map_nil, List.replicate, List.cons_append, List.nil_append, List.append_nil, List.getElem?_cons_zero, List.getElem?_cons_succ, List.getElem?_nil, List.set_cons_zero, List.set_cons_succ, List.set_nil, List.length_cons, List.length_nil, Option.bind_some, Option.bind_none, Option.map_some, Option.map_none, Option.some.injEq, List.cons.injEq, and_true, true_and, and_assoc, exists_eq_left, exists_eq_left', exists_eq_right, exists_eq_right', exists_and_left, exists_const, if_true, if_false, Bool.false_eq_true, reduceCtorEq, put_same, put_put, Dt.int.injEq, Dt.bl.injEq, Dt.adr.injEq, Dt.tup.injEq, Dt.lst.injEq, Dt.str.injEq, decide_eq_true_eq, Bool.not_true, Bool.not_false, put_ne (Ne.symm ne), hS1]
      refine hQ _ _ ⟨rfl, c, (f1 c ne).symm.trans hc, ne, put_same, by rw [put_ne ne, put_same], fun b h1 h2 => ?_⟩
      rw [put_ne h1, put_ne h2]
      exact f1 b h1
    rintro _ S2 ⟨rfl, c, hc, ne, hS2, hc2, f2⟩
    simp [sSeq, sIf, sAsg, sRet, sExpr, sNext, sPar, sRaise, sRetN, sDead, ofP, ofB, ofL, pVar, pC, pOp, pUn, pB, pT, pTup, pLst, aNil, aCons, bAnd_eq, bOr_eq, bNot, pIf_eq, pCall, pFn, oLen,  dAt, dFld, dDic, oIsN, oNotN, isN, asB_bl, dI, dI2, gNm, gFld, gTup2, gKey, gIx, tTupE, tLstE, tLstM, tACons, tCallF, tMethF, tMakeF, tBin, tListM, tApp, tDic, tAll, tIfE, tAndB, tOrB, tTst, tB1, tNotB, setF, startD, oList, vAnd_eq, vOr_eq, vNot, dTru, tRng1, oAll, tUnE, tDead, bDead, sFldU, sNmU, pSl, oSome, oNone, oMin, oMax, asI, pCh_eq, cutD_mid, cutD_to, cutD_from, band15, band255, oInt_int,
 dLst_lst, dTup_tup, dLen_lst, dLen_tup, dSeq_lst, dSeq_tup, dSeq_scr, dIx_lst, dIx_tup, at0, at1, at2, at3, at4, at5, at6, at7, dEq_int, dEq_str, dEq_bl, dEq_nn, dEq_ni, dEq_in, dEq_ns, dEq_sn, dEq_is, dEq_si, dNe_int, dNe_str, dNe_ni, dNe_in, dAdd_int,
 isi_bool_non, isi_bool_bl, isi_bool_int, isi_bool_str, isi_bool_lst, isi_bool_tup, isi_bool_dic, isi_int_non, isi_int_bl, isi_int_int, isi_int_str, isi_int_lst, isi_int_tup, isi_int_dic, isi_str_non, isi_str_bl, isi_str_int, isi_str_str, isi_str_lst, isi_str_tup, isi_str_dic, isi_list_non, isi_list_bl, isi_list_int, isi_list_str, isi_list_lst, isi_list_tup, isi_list_dic, isi_tuple_non, isi_tuple_bl, isi_tuple_int, isi_tuple_str, isi_tuple_lst, isi_tuple_tup, isi_tuple_dic, isi_dict_non, isi_dict_bl, isi_dict_int, isi_dict_str, isi_dict_lst, isi_dict_tup, isi_dict_dic,
 List.map_cons, List.map_nil, List.replicate, List.cons_append, List.nil_append, List.append_nil, List.getElem?_cons_zero, List.getElem?_cons_succ, List.getElem?_nil, List.set_cons_zero, List.set_cons_succ, List.set_nil, List.length_cons, List.length_nil, Option.bind_some, Option.bind_none, Option.map_some, Option.map_none, Option.some.injEq, List.cons.injEq, and_true, true_and, and_assoc, exists_eq_left, exists_eq_left', exists_eq_right, exists_eq_right', exists_and_left, exists_const, if_true, if_false, Bool.false_eq_true, reduceCtorEq, put_same, put_put, Dt.int.injEq, Dt.bl.injEq, Dt.adr.injEq, Dt.tup.injEq, Dt.lst.injEq, Dt.str.injEq, decide_eq_true_eq, Bool.not_true, Bool.not_false, hS2]
    exact k c _ hc put_same (by rw [put_ne ne]; exact hc2) ne fun b h1 h2 => by rw [put_ne h1]; exact f2 b h1 h2
  · have k := k1 c
    by_cases c1 : (1 : Int) ≤ ds.length
    · have c2 : ¬ (ds.length : Int) ≤ 4095 := by omega
      simp [sSeq, sIf, sAsg, sRet, sExpr, sNext, sPar, sRaise, sRetN, sDead, ofP, ofB, ofL, pVar, pC, pOp, pUn, pB, pT, pTup, pLst, aNil, aCons, bAnd_eq, bOr_eq, bNot, pIf_eq, pCall, pFn, oLen,  dAt, dFld, dDic, oIsN, oNotN, isN, asB_bl, dI, dI2, gNm, gFld, gTup2, gKey, gIx, tTupE, tLstE, tLstM, tACons, tCallF, tMethF, tMakeF, tBin, tListM, tApp, tDic, tAll, tIfE, tAndB, tOrB, tTst, tB1, tNotB, setF, startD, oList, vAnd_eq, vOr_eq, vNot, dTru, tRng1, oAll, tUnE, tDead, bDead, sFldU, sNmU, pSl, oSome, oNone, oMin, oMax, asI, pCh_eq, cutD_mid, cutD_to, cutD_from, band15, band255, oInt_int,
 dLst_lst, dTup_tup, dLen_lst, dLen_tup, dSeq_lst, dSeq_tup, dSeq_scr, dIx_lst, dIx_tup, at0, at1, at2, at3, at4, at5, at6, at7, dEq_int, dEq_str, dEq_bl, dEq_nn, dEq_ni, dEq_in, dEq_ns, dEq_sn, dEq_is, dEq_si, dNe_int, dNe_str, dNe_ni, dNe_in, dAdd_int,
 isi_bool_non, isi_bool_bl, isi_bool_int, isi_bool_str, isi_bool_lst, isi_bool_tup, isi_bool_dic, isi_int_non, isi_int_bl, isi_int_int, isi_int_str, isi_int_lst, isi_int_tup, isi_int_dic, isi_str_non, isi_str_bl, isi_str_int, isi_str_str, isi_str_lst, isi_str_tup, isi_str_dic, isi_list_non, isi_list_bl, isi_list_int, isi_list_str, isi_list_lst, isi_list_tup, isi_list_dic, isi_tuple_non, isi_tuple_bl, isi_tuple_int, isi_tuple_str, isi_tuple_lst, isi_tuple_tup, isi_tuple_dic, isi_dict_non, isi_dict_bl, isi_dict_int, isi_dict_str, isi_dict_lst, isi_dict_tup, isi_dict_dic,
 List.map_cons, List.map_nil, List.replicate, List.cons_append, List.nil_append, List.append_nil, List.getElem?_cons_zero, List.getElem?_cons_succ, List.getElem?_nil, List.set_cons_zero, List.set_cons_succ, List.set_nil, List.length_cons, List.length_nil, Option.bind_some, Option.bind_none, Option.map_some, Option.map_none, Option.some.injEq, List.cons.injEq, and_true, true_and, and_assoc, exists_eq_left, exists_eq_left', exists_eq_right, exists_eq_right', exists_and_left, exists_const, if_true, if_false, Bool.false_eq_true, reduceCtorEq, put_same, put_put, Dt.int.injEq, Dt.bl.injEq, Dt.adr.injEq, Dt.tup.injEq, Dt.lst.injEq, Dt.str.injEq, decide_eq_true_eq, Bool.not_true, Bool.not_false, T_Sender_init, hS, l1, c1, c2]
      exact k
    · simp [sSeq, sIf, sAsg, sRet, sExpr, sNext, sPar, sRaise, sRetN, sDead, ofP, ofB, ofL, pVar, pC, pOp, pUn, pB, pT, pTup, pLst, aNil, aCons, bAnd_eq, bOr_eq, bNot, pIf_eq, pCall, pFn, oLen,  dAt, dFld, dDic, oIsN, oNotN, isN, asB_bl, dI, dI2, gNm, gFld, gTup2, gKey, gIx, tTupE, tLstE, tLstM, tACons, tCallF, tMethF, tMakeF, tBin, tListM, tApp, tDic, tAll, tIfE, tAndB, tOrB, tTst, tB1, tNotB, setF, startD, oList, vAnd_eq, vOr_eq, vNot, dTru, tRng1, oAll, tUnE, tDead, bDead, sFldU, sNmU, pSl, oSome, oNone, oMin, oMax, asI, pCh_eq, cutD_mid, cutD_to, cutD_from, band15, band255, oInt_int,
 dLst_lst, dTup_tup, dLen_lst, dLen_tup, dSeq_lst, dSeq_tup, dSeq_scr, dIx_lst, dIx_tup, at0, at1, at2, at3, at4, at5, at6, at7, dEq_int, dEq_str, dEq_bl, dEq_nn, dEq_ni, dEq_in, dEq_ns, dEq_sn, dEq_is, dEq_si, dNe_int, dNe_str, dNe_ni, dNe_in, dAdd_int,
 isi_bool_non, isi_bool_bl, isi_bool_int, isi_bool_str, isi_bool_lst, isi_bool_tup, isi_bool_dic, isi_int_non, isi_int_bl, isi_int_int, isi_int_str, isi_int_lst, isi_int_tup, isi_int_dic, isi_str_non, isi_str_bl, isi_str_int, isi_str_str, isi_str_lst, isi_str_tup, isi_str_dic, isi_list_non, isi_list_bl, isi_list_int, isi_list_str, isi_list_lst, isi_list_tup, isi_list_dic, isi_tuple_non, isi_tuple_bl, isi_tuple_int, isi_tuple_str, isi_tuple_lst, isi_tuple_tup, isi_tuple_dic, isi_dict_non, isi_dict_bl, isi_dict_int, isi_dict_str, isi_dict_lst, isi_dict_tup, isi_dict_dic,
 List.map_cons, List.map_nil, List.replicate, List.cons_append, List.nil_append, List.append_nil, List.getElem?_cons_zero, List.getElem?_cons_succ, List.getElem?_nil, List.set_cons_zero, List.set_cons_succ, List.set_nil, List.length_cons, List.length_nil, Option.bind_some, Option.bind_none, Option.map_some, Option.map_none, Option.some.injEq, List.cons.injEq, and_true, true_and, and_assoc, exists_eq_left, exists_eq_left', exists_eq_right, exists_eq_right', exists_and_left, exists_const, if_true, if_false, Bool.false_eq_true, reduceCtorEq, put_same, put_put, Dt.int.injEq, Dt.bl.injEq, Dt.adr.injEq, Dt.tup.injEq, Dt.lst.injEq, Dt.str.injEq, decide_eq_true_eq, Bool.not_true, Bool.not_false, T_Sender_init, hS, l1, c1]
      exact k
end K47
set_option maxRecDepth 100000
set_option maxHeartbeats 4000000
namespace K47
open PySem PySem.Spec PyProof.Rows L2 Ax
theorem dW : ("done" : Str) ≠ "waiting" := by decide +kernel
theorem dS : ("done" : Str) ≠ "sending" := by decide +kernel
theorem WF.stop {m : M} (h : WF m) {st : Str} (h1 : st ≠ "waiting") (h2 : st ≠ "sending") : WF (stop m st) := ⟨h.len, fun _ => ⟨h1, h2⟩⟩
theorem WF.send {m : M} (h : WF m) {t : Int} : WF (sendM m t).1 := by
  unfold sendM
  simp only
  split
  · exact ⟨h.len, fun _ => ⟨dW, dS⟩⟩
  · split
    · exact ⟨h.len, fun z => by simp at z⟩
    · exact ⟨h.len, fun z => by simp at z⟩
theorem nxt_ok {S : Sto} {xs : List Int} {p : Nat} {n : Int} : g_next_part [.int n, .lst (((xs.map Dt.int).drop p).take 7)] S = some (il ((32 + n % 16) :: (xs.drop p).take 7)) := by
  have : (((xs.map Dt.int).drop p).take 7).length ≤ 1000 := by rw [List.length_take]; omega
  simp only [g_next_part, this, if_true, il, List.map_cons, List.map_take, List.map_drop]
theorem len_Sender_send_next (A : Ad) : ∀ ds S Φ Ψ, sp_Sender_send_next A ds S Φ Ψ → ds.length = 2 := fun ds S Φ Ψ ⟨_, _, _, _, e, _⟩ => by rw [e]; rfl
theorem law_Sender_send_next (A : Ad) : ∀ ds S Φ Ψ, sp_Sender_send_next A ds S Φ Ψ → T_Sender_send_next A (LE0 Φ Ψ) (startD 1 ds) S := by
  rintro ds S Φ Ψ ⟨a, c, m, n, rfl, ⟨⟨p, hS, hp⟩, hc, ne, wf⟩, hb, hst, k⟩
  have hp : p = m.pos := by
    rcases hp with h | h
    · exact absurd h hb
    · exact h
  subst hp
  have wfs := wf.send (t := n)
  have K : ∀ x : MO, (∃ m', (sendM m n).1 = m' ∧ x = .ins A.k_Sender [il m'.data, .int m'.waits, .str m'.state, .adr c, .int m'.pos, .int m'.number, oD m'.left, .int m'.gap, oD m'.bell] ∧ m'.now = m.now) → Φ (rowsD (sendM m n).2) (S.put a x) := by
    rintro x ⟨m', rfl, rfl, e2⟩
    exact k _ ⟨⟨_, put_same, .inr rfl⟩, by rw [put_ne ne, e2]; exact hc, ne, wfs⟩ fun b h1 h2 => put_ne h1
  clear k wfs
  obtain ⟨data, waits, state, pos, number, left, gap, bell, now⟩ := m
  simp only at hst
  subst hst
  have h7 : (0 : Int) ≤ (pos : Int) + 7 := by omega
  have e7 : ((pos : Int) + 7).toNat = pos + 7 := by omega
  have e8 : pos + 7 - pos = 7 := by omega
  have row : ∀ x, sendM ⟨data, waits, "sending", pos, number, left, gap, bell, now⟩ n = x → x.2 = [(n, (32 + (number + 1) % 16) :: (data.drop pos).take 7)] := fun x h => by rw [← h]; rfl
  cases bell with
  | none => exact absurd rfl hb
  | some b0 =>
    cases left with
    | none =>
      by_cases c1 : data.length ≤ pos + 7
      · have c2 : (data.length : Int) ≤ (pos : Int) + 7 := by omega
        have K' := K _ ⟨_, rfl, rfl, by simp [sendM, stop, c1]⟩
        simp [sSeq, sIf, sAsg, sRet, sExpr, sNext, sPar, sRaise, sRetN, sDead, ofP, ofB, ofL, pVar, pC, pOp, pUn, pB, pT, pTup, pLst, aNil, aCons, bAnd_eq, bOr_eq, bNot, pIf_eq, pCall, pFn, oLen,  dAt, dFld, dDic, oIsN, oNotN, isN, asB_bl, dI, dI2, gNm, gFld, gTup2, gKey, gIx, tTupE, tLstE, tLstM, tACons, tCallF, tMethF, tMakeF, tBin, tListM, tApp, tDic, tAll, tIfE, tAndB, tOrB, tTst, tB1, tNotB, setF, startD, oList, vAnd_eq, vOr_eq, vNot, dTru, tRng1, oAll, tUnE, tDead, bDead, sFldU, sNmU, pSl, oSome, oNone, oMin, oMax, asI, pCh_eq, cutD_mid, cutD_to, cutD_from, band15, band255, oInt_int,
 dLst_lst, dTup_tup, dLen_lst, dLen_tup, dSeq_lst, dSeq_tup, dSeq_scr, dIx_lst, dIx_tup, at0, at1, at2, at3, at4, at5, at6, at7, dEq_int, dEq_str, dEq_bl, dEq_nn, dEq_ni, dEq_in, dEq_ns, dEq_sn, dEq_is, dEq_si, dNe_int, dNe_str, dNe_ni, dNe_in, dAdd_int,
 isi_bool_non, isi_bool_bl, isi_bool_int, isi_bool_str, isi_bool_lst, isi_bool_tup, isi_bool_dic, isi_int_non, isi_int_bl, isi_int_int, isi_int_str, isi_int_lst, isi_int_tup, isi_int_dic, isi_str_non, isi_str_bl, isi_str_int, isi_str_str, isi_str_lst, isi_str_tup, isi_str_dic, isi_list_non, isi_list_bl, isi_list_int, isi_list_str, isi_list_lst, isi_list_tup, isi_list_dic, isi_tuple_non, isi_tuple_bl, isi_tuple_int, isi_tuple_str, isi_tuple_lst, isi_tuple_tup, isi_tuple_dic, isi_dict_non, isi_dict_bl, isi_dict_int, isi_dict_str, isi_dict_lst, isi_dict_tup, isi_dict_dic,
 List.map_cons, List.map_nil, List.replicate, List.cons_append, List.nil_append, List.append_nil, List.getElem?_cons_zero, List.getElem?_cons_succ, List.getElem?_nil, List.set_cons_zero, List.set_cons_succ, List.set_nil, List.length_cons, List.length_nil, Option.bind_some, Option.bind_none, Option.map_some, Option.map_none, Option.some.injEq, List.cons.injEq, and_true, true_and, and_assoc, exists_eq_left, exists_eq_left', exists_eq_right, exists_eq_right', exists_and_left, exists_const, if_true, if_false, Bool.false_eq_true, reduceCtorEq, put_same, put_put, Dt.int.injEq, Dt.bl.injEq, Dt.adr.injEq, Dt.tup.injEq, Dt.lst.injEq, Dt.str.injEq, decide_eq_true_eq, Bool.not_true, Bool.not_false, T_Sender_send_next, hS, il, oD, h7, e7, e8, nxt_ok, c2, dNe_in, sp_Sender_end, pFn]
        simp [sendM, stop, c1, rowsD, rowD, il, oD] at K'
        exact K'
      · have c2 : ¬ (data.length : Int) ≤ (pos : Int) + 7 := by omega
        have K' := K _ ⟨_, rfl, rfl, by simp [sendM, stop, c1]⟩
        simp [sSeq, sIf, sAsg, sRet, sExpr, sNext, sPar, sRaise, sRetN, sDead, ofP, ofB, ofL, pVar, pC, pOp, pUn, pB, pT, pTup, pLst, aNil, aCons, bAnd_eq, bOr_eq, bNot, pIf_eq, pCall, pFn, oLen,  dAt, dFld, dDic, oIsN, oNotN, isN, asB_bl, dI, dI2, gNm, gFld, gTup2, gKey, gIx, tTupE, tLstE, tLstM, tACons, tCallF, tMethF, tMakeF, tBin, tListM, tApp, tDic, tAll, tIfE, tAndB, tOrB, tTst, tB1, tNotB, setF, startD, oList, vAnd_eq, vOr_eq, vNot, dTru, tRng1, oAll, tUnE, tDead, bDead, sFldU, sNmU, pSl, oSome, oNone, oMin, oMax, asI, pCh_eq, cutD_mid, cutD_to, cutD_from, band15, band255, oInt_int,
 dLst_lst, dTup_tup, dLen_lst, dLen_tup, dSeq_lst, dSeq_tup, dSeq_scr, dIx_lst, dIx_tup, at0, at1, at2, at3, at4, at5, at6, at7, dEq_int, dEq_str, dEq_bl, dEq_nn, dEq_ni, dEq_in, dEq_ns, dEq_sn, dEq_is, dEq_si, dNe_int, dNe_str, dNe_ni, dNe_in, dAdd_int,
 isi_bool_non, isi_bool_bl, isi_bool_int, isi_bool_str, isi_bool_lst, isi_bool_tup, isi_bool_dic, isi_int_non, isi_int_bl, isi_int_int, isi_int_str, isi_int_lst, isi_int_tup, isi_int_dic, isi_str_non, isi_str_bl, isi_str_int, isi_str_str, isi_str_lst, isi_str_tup, isi_str_dic, isi_list_non, isi_list_bl, isi_list_int, isi_list_str, isi_list_lst, isi_list_tup, isi_list_dic, isi_tuple_non, isi_tuple_bl, isi_tuple_int, isi_tuple_str, isi_tuple_lst, isi_tuple_tup, isi_tuple_dic, isi_dict_non, isi_dict_bl, isi_dict_int, isi_dict_str, isi_dict_lst, isi_dict_tup, isi_dict_dic,
 List.map_cons, List.map_nil, List.replicate, List.cons_append, List.nil_append, List.append_nil, List.getElem?_cons_zero, List.getElem?_cons_succ, List.getElem?_nil, List.set_cons_zero, List.set_cons_succ, List.set_nil, List.length_cons, List.length_nil, Option.bind_some, Option.bind_none, Option.map_some, Option.map_none, Option.some.injEq, List.cons.injEq, and_true, true_and, and_assoc, exists_eq_left, exists_eq_left', exists_eq_right, exists_eq_right', exists_and_left, exists_const, if_true, if_false, Bool.false_eq_true, reduceCtorEq, put_same, put_put, Dt.int.injEq, Dt.bl.injEq, Dt.adr.injEq, Dt.tup.injEq, Dt.lst.injEq, Dt.str.injEq, decide_eq_true_eq, Bool.not_true, Bool.not_false, T_Sender_send_next, hS, il, oD, h7, e7, e8, nxt_ok, c2, dNe_in, sp_Sender_end, pFn]
        simp [sendM, stop, c1, rowsD, rowD, il, oD] at K'
        exact K'
    | some l =>
      by_cases c1 : data.length ≤ pos + 7
      · have c2 : (data.length : Int) ≤ (pos : Int) + 7 := by omega
        have K' := K _ ⟨_, rfl, rfl, by simp [sendM, stop, c1]⟩
        simp [sSeq, sIf, sAsg, sRet, sExpr, sNext, sPar, sRaise, sRetN, sDead, ofP, ofB, ofL, pVar, pC, pOp, pUn, pB, pT, pTup, pLst, aNil, aCons, bAnd_eq, bOr_eq, bNot, pIf_eq, pCall, pFn, oLen,  dAt, dFld, dDic, oIsN, oNotN, isN, asB_bl, dI, dI2, gNm, gFld, gTup2, gKey, gIx, tTupE, tLstE, tLstM, tACons, tCallF, tMethF, tMakeF, tBin, tListM, tApp, tDic, tAll, tIfE, tAndB, tOrB, tTst, tB1, tNotB, setF, startD, oList, vAnd_eq, vOr_eq, vNot, dTru, tRng1, oAll, tUnE, tDead, bDead, sFldU, sNmU, pSl, oSome, oNone, oMin, oMax, asI, pCh_eq, cutD_mid, cutD_to, cutD_from, band15, band255, oInt_int,
 dLst_lst, dTup_tup, dLen_lst, dLen_tup, dSeq_lst, dSeq_tup, dSeq_scr, dIx_lst, dIx_tup, at0, at1, at2, at3, at4, at5, at6, at7, dEq_int, dEq_str, dEq_bl, dEq_nn, dEq_ni, dEq_in, dEq_ns, dEq_sn, dEq_is, dEq_si, dNe_int, dNe_str, dNe_ni, dNe_in, dAdd_int,
 isi_bool_non, isi_bool_bl, isi_bool_int, isi_bool_str, isi_bool_lst, isi_bool_tup, isi_bool_dic, isi_int_non, isi_int_bl, isi_int_int, isi_int_str, isi_int_lst, isi_int_tup, isi_int_dic, isi_str_non, isi_str_bl, isi_str_int, isi_str_str, isi_str_lst, isi_str_tup, isi_str_dic, isi_list_non, isi_list_bl, isi_list_int, isi_list_str, isi_list_lst, isi_list_tup, isi_list_dic, isi_tuple_non, isi_tuple_bl, isi_tuple_int, isi_tuple_str, isi_tuple_lst, isi_tuple_tup, isi_tuple_dic, isi_dict_non, isi_dict_bl, isi_dict_int, isi_dict_str, isi_dict_lst, isi_dict_tup, isi_dict_dic,
 List.map_cons, List.map_nil, List.replicate, List.cons_append, List.nil_append, List.append_nil, List.getElem?_cons_zero, List.getElem?_cons_succ, List.getElem?_nil, List.set_cons_zero, List.set_cons_succ, List.set_nil, List.length_cons, List.length_nil, Option.bind_some, Option.bind_none, Option.map_some, Option.map_none, Option.some.injEq, List.cons.injEq, and_true, true_and, and_assoc, exists_eq_left, exists_eq_left', exists_eq_right, exists_eq_right', exists_and_left, exists_const, if_true, if_false, Bool.false_eq_true, reduceCtorEq, put_same, put_put, Dt.int.injEq, Dt.bl.injEq, Dt.adr.injEq, Dt.tup.injEq, Dt.lst.injEq, Dt.str.injEq, decide_eq_true_eq, Bool.not_true, Bool.not_false, T_Sender_send_next, hS, il, oD, h7, e7, e8, nxt_ok, c2, dNe_in, sp_Sender_end, pFn]
        simp [sendM, stop, c1, rowsD, rowD, il, oD] at K'
        exact K'
      · have c2 : ¬ (data.length : Int) ≤ (pos : Int) + 7 := by omega
        by_cases c3 : l = 1
        · subst c3
          have K' := K _ ⟨_, rfl, rfl, by simp [sendM, stop, c1]⟩
          simp [sSeq, sIf, sAsg, sRet, sExpr, sNext, sPar, sRaise, sRetN, sDead, ofP, ofB, ofL, pVar, pC, pOp, pUn, pB, pT, pTup, pLst, aNil, aCons, bAnd_eq, bOr_eq, bNot, pIf_eq, pCall, pFn, oLen,  dAt, dFld, dDic, oIsN, oNotN, isN, asB_bl, dI, dI2, gNm, gFld, gTup2, gKey, gIx, tTupE, tLstE, tLstM, tACons, tCallF, tMethF, tMakeF, tBin, tListM, tApp, tDic, tAll, tIfE, tAndB, tOrB, tTst, tB1, tNotB, setF, startD, oList, vAnd_eq, vOr_eq, vNot, dTru, tRng1, oAll, tUnE, tDead, bDead, sFldU, sNmU, pSl, oSome, oNone, oMin, oMax, asI, pCh_eq, cutD_mid, cutD_to, cutD_from, band15, band255, oInt_int,
 dLst_lst, dTup_tup, dLen_lst, dLen_tup, dSeq_lst, dSeq_tup, dSeq_scr, dIx_lst, dIx_tup, at0, at1, at2, at3, at4, at5, at6, at7, dEq_int, dEq_str, dEq_bl, dEq_nn, dEq_ni, dEq_in, dEq_ns, dEq_sn, dEq_is, dEq_si, dNe_int, dNe_str, dNe_ni, dNe_in, dAdd_int,
 isi_bool_non, isi_bool_bl, isi_bool_int, isi_bool_str, isi_bool_lst, isi_bool_tup, isi_bool_dic, isi_int_non, isi_int_bl, isi_int_int, isi_int_str, isi_int_lst, isi_int_tup, isi_int_dic, isi_str_non, isi_str_bl, isi_str_int, isi_str_str, isi_str_lst, isi_str_tup, isi_str_dic, isi_list_non, isi_list_bl, isi_list_int, isi_list_str, isi_list_lst, isi_list_tup, isi_list_dic, isi_tuple_non, isi_tuple_bl, isi_tuple_int, isi_tuple_str, isi_tuple_lst, isi_tuple_tup, isi_tuple_dic, isi_dict_non, isi_dict_bl, isi_dict_int, isi_dict_str, isi_dict_lst, isi_dict_tup, isi_dict_dic,
 List.map_cons, List.map_nil, List.replicate, List.cons_append, List.nil_append, List.append_nil, List.getElem?_cons_zero, List.getElem?_cons_succ, List.getElem?_nil, List.set_cons_zero, List.set_cons_succ, List.set_nil, List.length_cons, List.length_nil, Option.bind_some, Option.bind_none, Option.map_some, Option.map_none, Option.some.injEq, List.cons.injEq, and_true, true_and, and_assoc, exists_eq_left, exists_eq_left', exists_eq_right, exists_eq_right', exists_and_left, exists_const, if_true, if_false, Bool.false_eq_true, reduceCtorEq, put_same, put_put, Dt.int.injEq, Dt.bl.injEq, Dt.adr.injEq, Dt.tup.injEq, Dt.lst.injEq, Dt.str.injEq, decide_eq_true_eq, Bool.not_true, Bool.not_false, T_Sender_send_next, hS, il, oD, h7, e7, e8, nxt_ok, c2, dNe_in, sp_Sender_end, pFn]
          simp [sendM, stop, c1, rowsD, rowD, il, oD] at K'
          exact K'
        · have c4 : ¬ l - 1 = 0 := by omega
          have K' := K _ ⟨_, rfl, rfl, by simp [sendM, stop, c1, c4]⟩
          simp [sSeq, sIf, sAsg, sRet, sExpr, sNext, sPar, sRaise, sRetN, sDead, ofP, ofB, ofL, pVar, pC, pOp, pUn, pB, pT, pTup, pLst, aNil, aCons, bAnd_eq, bOr_eq, bNot, pIf_eq, pCall, pFn, oLen,  dAt, dFld, dDic, oIsN, oNotN, isN, asB_bl, dI, dI2, gNm, gFld, gTup2, gKey, gIx, tTupE, tLstE, tLstM, tACons, tCallF, tMethF, tMakeF, tBin, tListM, tApp, tDic, tAll, tIfE, tAndB, tOrB, tTst, tB1, tNotB, setF, startD, oList, vAnd_eq, vOr_eq, vNot, dTru, tRng1, oAll, tUnE, tDead, bDead, sFldU, sNmU, pSl, oSome, oNone, oMin, oMax, asI, pCh_eq, cutD_mid, cutD_to, cutD_from, band15, band255, oInt_int,
 dLst_lst, dTup_tup, dLen_lst, dLen_tup, dSeq_lst, dSeq_tup, dSeq_scr, dIx_lst, dIx_tup, at0, at1, at2, at3, at4, at5, at6, at7, dEq_int, dEq_str, dEq_bl, dEq_nn, dEq_ni, dEq_in, dEq_ns, dEq_sn, dEq_is, dEq_si, dNe_int, dNe_str, dNe_ni, dNe_in, dAdd_int,
 isi_bool_non, isi_bool_bl, isi_bool_int, isi_bool_str, isi_bool_lst, isi_bool_tup, isi_bool_dic, isi_int_non, isi_int_bl, isi_int_int, isi_int_str, isi_int_lst, isi_int_tup, isi_int_dic, isi_str_non, isi_str_bl, isi_str_int, isi_str_str, isi_str_lst, isi_str_tup, isi_str_dic, isi_list_non, isi_list_bl, isi_list_int, isi_list_str, isi_list_lst, isi_list_tup, isi_list_dic, isi_tuple_non, isi_tuple_bl, isi_tuple_int, isi_tuple_str, isi_tuple_lst, isi_tuple_tup, isi_tuple_dic, isi_dict_non, isi_dict_bl, isi_dict_int, isi_dict_str, isi_dict_lst, isi_dict_tup, isi_dict_dic,
 List.map_cons, List.map_nil, List.replicate, List.cons_append, List.nil_append, List.append_nil, List.getElem?_cons_zero, List.getElem?_cons_succ, List.getElem?_nil, List.set_cons_zero, List.set_cons_succ, List.set_nil, List.length_cons, List.length_nil, Option.bind_some, Option.bind_none, Option.map_some, Option.map_none, Option.some.injEq, List.cons.injEq, and_true, true_and, and_assoc, exists_eq_left, exists_eq_left', exists_eq_right, exists_eq_right', exists_and_left, exists_const, if_true, if_false, Bool.false_eq_true, reduceCtorEq, put_same, put_put, Dt.int.injEq, Dt.bl.injEq, Dt.adr.injEq, Dt.tup.injEq, Dt.lst.injEq, Dt.str.injEq, decide_eq_true_eq, Bool.not_true, Bool.not_false, T_Sender_send_next, hS, il, oD, h7, e7, e8, nxt_ok, c2, c4, dNe_in, sp_Sender_end, pFn]
          simp [sendM, stop, c1, c4, rowsD, rowD, il, oD] at K'
          exact K'
theorem cut_len {xs : List Int} {p : Nat} {w : Dt} : ([w] : List Dt).length + (((xs.map Dt.int).drop p).take 7).length ≤ 1000000 := by
  rw [List.length_take]
  simp
  omega
theorem len__law_sender_next (A : Ad) : ∀ ds S Φ Ψ, sp__law_sender_next A ds S Φ Ψ → ds.length = 2 := fun ds S Φ Ψ ⟨_, _, _, e, _⟩ => by rw [e]; rfl
theorem law__law_sender_next (A : Ad) : ∀ ds S Φ Ψ, sp__law_sender_next A ds S Φ Ψ → T__law_sender_next A (LE0 Φ Ψ) (startD 1 ds) S := by
  rintro ds S Φ Ψ ⟨o, m, n, rfl, ⟨hS, wf⟩, hb, hst, k⟩
  have wfs := wf.send (t := n)
  have K : ∀ x : MO, (∃ m', (sendM m n).1 = m' ∧ x = .dic OK [il m'.data, .int m'.waits, .str m'.state, .int m'.pos, .int m'.number, oD m'.left, .int m'.gap, oD m'.bell, .int m'.now]) → Φ (rowsD (sendM m n).2) (S.put o x) := by
    rintro x ⟨m', rfl, rfl⟩
    exact k _ ⟨put_same, wfs⟩ fun b h1 => put_ne h1
  clear k wfs
  obtain ⟨data, waits, state, pos, number, left, gap, bell, now⟩ := m
  simp only at hst
  subst hst
  have h7 : (0 : Int) ≤ (pos : Int) + 7 := by omega
  have e7 : ((pos : Int) + 7).toNat = pos + 7 := by omega
  have e8 : pos + 7 - pos = 7 := by omega
  have e9 : ∀ w : Dt, dAdd S (.lst [w]) (.lst (((data.map Dt.int).drop pos).take 7)) = _ := fun w => dAdd_lst cut_len
  have f9 : ∀ (m : MO) (w : Dt), dAdd (S.put o m) (.lst [w]) (.lst (((data.map Dt.int).drop pos).take 7)) = _ := fun m w => dAdd_lst cut_len
  cases bell with
  | none => exact absurd rfl hb
  | some b0 =>
    cases left with
    | none =>
      by_cases c1 : data.length ≤ pos + 7
      · have c2 : (data.length : Int) ≤ (pos : Int) + 7 := by omega
        have K' := K _ ⟨_, rfl, rfl⟩
        simp [sSeq, sIf, sAsg, sRet, sExpr, sNext, sPar, sRaise, sRetN, sDead, ofP, ofB, ofL, pVar, pC, pOp, pUn, pB, pT, pTup, pLst, aNil, aCons, bAnd_eq, bOr_eq, bNot, pIf_eq, pCall, pFn, oLen,  dAt, dFld, dDic, oIsN, oNotN, isN, asB_bl, dI, dI2, gNm, gFld, gTup2, gKey, gIx, tTupE, tLstE, tLstM, tACons, tCallF, tMethF, tMakeF, tBin, tListM, tApp, tDic, tAll, tIfE, tAndB, tOrB, tTst, tB1, tNotB, setF, startD, oList, vAnd_eq, vOr_eq, vNot, dTru, tRng1, oAll, tUnE, tDead, bDead, sFldU, sNmU, pSl, oSome, oNone, oMin, oMax, asI, pCh_eq, cutD_mid, cutD_to, cutD_from, band15, band255, oInt_int,
 dLst_lst, dTup_tup, dLen_lst, dLen_tup, dSeq_lst, dSeq_tup, dSeq_scr, dIx_lst, dIx_tup, at0, at1, at2, at3, at4, at5, at6, at7, dEq_int, dEq_str, dEq_bl, dEq_nn, dEq_ni, dEq_in, dEq_ns, dEq_sn, dEq_is, dEq_si, dNe_int, dNe_str, dNe_ni, dNe_in, dAdd_int,
 isi_bool_non, isi_bool_bl, isi_bool_int, isi_bool_str, isi_bool_lst, isi_bool_tup, isi_bool_dic, isi_int_non, isi_int_bl, isi_int_int, isi_int_str, isi_int_lst, isi_int_tup, isi_int_dic, isi_str_non, isi_str_bl, isi_str_int, isi_str_str, isi_str_lst, isi_str_tup, isi_str_dic, isi_list_non, isi_list_bl, isi_list_int, isi_list_str, isi_list_lst, isi_list_tup, isi_list_dic, isi_tuple_non, isi_tuple_bl, isi_tuple_int, isi_tuple_str, isi_tuple_lst, isi_tuple_tup, isi_tuple_dic, isi_dict_non, isi_dict_bl, isi_dict_int, isi_dict_str, isi_dict_lst, isi_dict_tup, isi_dict_dic,
 List.map_cons, List.map_nil, List.replicate, List.cons_append, List.nil_append, List.append_nil, List.getElem?_cons_zero, List.getElem?_cons_succ, List.getElem?_nil, List.set_cons_zero, List.set_cons_succ, List.set_nil, List.length_cons, List.length_nil, Option.bind_some, Option.bind_none, Option.map_some, Option.map_none, Option.some.injEq, List.cons.injEq, and_true, true_and, and_assoc, exists_eq_left, exists_eq_left', exists_eq_right, exists_eq_right', exists_and_left, exists_const, if_true, if_false, Bool.false_eq_true, reduceCtorEq, put_same, put_put, Dt.int.injEq, Dt.bl.injEq, Dt.adr.injEq, Dt.tup.injEq, Dt.lst.injEq, Dt.str.injEq, decide_eq_true_eq, Bool.not_true, Bool.not_false, T__law_sender_next, hS, il, oD, h7, e7, e8, e9, f9, c2]
        simp [sendM, stop, c1, rowsD, rowD, il, oD] at K'
        exact K'
      · have c2 : ¬ (data.length : Int) ≤ (pos : Int) + 7 := by omega
        have K' := K _ ⟨_, rfl, rfl⟩
        simp [sSeq, sIf, sAsg, sRet, sExpr, sNext, sPar, sRaise, sRetN, sDead, ofP, ofB, ofL, pVar, pC, pOp, pUn, pB, pT, pTup, pLst, aNil, aCons, bAnd_eq, bOr_eq, bNot, pIf_eq, pCall, pFn, oLen,  dAt, dFld, dDic, oIsN, oNotN, isN, asB_bl, dI, dI2, gNm, gFld, gTup2, gKey, gIx, tTupE, tLstE, tLstM, tACons, tCallF, tMethF, tMakeF, tBin, tListM, tApp, tDic, tAll, tIfE, tAndB, tOrB, tTst, tB1, tNotB, setF, startD, oList, vAnd_eq, vOr_eq, vNot, dTru, tRng1, oAll, tUnE, tDead, bDead, sFldU, sNmU, pSl, oSome, oNone, oMin, oMax, asI, pCh_eq, cutD_mid, cutD_to, cutD_from, band15, band255, oInt_int,
 dLst_lst, dTup_tup, dLen_lst, dLen_tup, dSeq_lst, dSeq_tup, dSeq_scr, dIx_lst, dIx_tup, at0, at1, at2, at3, at4, at5, at6, at7, dEq_int, dEq_str, dEq_bl, dEq_nn, dEq_ni, dEq_in, dEq_ns, dEq_sn, dEq_is, dEq_si, dNe_int, dNe_str, dNe_ni, dNe_in, dAdd_int,
 isi_bool_non, isi_bool_bl, isi_bool_int, isi_bool_str, isi_bool_lst, isi_bool_tup, isi_bool_dic, isi_int_non, isi_int_bl, isi_int_int, isi_int_str, isi_int_lst, isi_int_tup, isi_int_dic, isi_str_non, isi_str_bl, isi_str_int, isi_str_str, isi_str_lst, isi_str_tup, isi_str_dic, isi_list_non, isi_list_bl, isi_list_int, isi_list_str, isi_list_lst, isi_list_tup, isi_list_dic, isi_tuple_non, isi_tuple_bl, isi_tuple_int, isi_tuple_str, isi_tuple_lst, isi_tuple_tup, isi_tuple_dic, isi_dict_non, isi_dict_bl, isi_dict_int, isi_dict_str, isi_dict_lst, isi_dict_tup, isi_dict_dic,
 List.map_cons, List.map_nil, List.replicate, List.cons_append, List.nil_append, List.append_nil, List.getElem?_cons_zero, List.getElem?_cons_succ, List.getElem?_nil, List.set_cons_zero, List.set_cons_succ, List.set_nil, List.length_cons, List.length_nil, Option.bind_some, Option.bind_none, Option.map_some, Option.map_none, Option.some.injEq, List.cons.injEq, and_true, true_and, and_assoc, exists_eq_left, exists_eq_left', exists_eq_right, exists_eq_right', exists_and_left, exists_const, if_true, if_false, Bool.false_eq_true, reduceCtorEq, put_same, put_put, Dt.int.injEq, Dt.bl.injEq, Dt.adr.injEq, Dt.tup.injEq, Dt.lst.injEq, Dt.str.injEq, decide_eq_true_eq, Bool.not_true, Bool.not_false, T__law_sender_next, hS, il, oD, h7, e7, e8, e9, f9, c2]
        simp [sendM, stop, c1, rowsD, rowD, il, oD] at K'
        exact K'
    | some l =>
      by_cases c1 : data.length ≤ pos + 7
      · have c2 : (data.length : Int) ≤ (pos : Int) + 7 := by omega
        have K' := K _ ⟨_, rfl, rfl⟩
        simp [sSeq, sIf, sAsg, sRet, sExpr, sNext, sPar, sRaise, sRetN, sDead, ofP, ofB, ofL, pVar, pC, pOp, pUn, pB, pT, pTup, pLst, aNil, aCons, bAnd_eq, bOr_eq, bNot, pIf_eq, pCall, pFn, oLen,  dAt, dFld, dDic, oIsN, oNotN, isN, asB_bl, dI, dI2, gNm, gFld, gTup2, gKey, gIx, tTupE, tLstE, tLstM, tACons, tCallF, tMethF, tMakeF, tBin, tListM, tApp, tDic, tAll, tIfE, tAndB, tOrB, tTst, tB1, tNotB, setF, startD, oList, vAnd_eq, vOr_eq, vNot, dTru, tRng1, oAll, tUnE, tDead, bDead, sFldU, sNmU, pSl, oSome, oNone, oMin, oMax, asI, pCh_eq, cutD_mid, cutD_to, cutD_from, band15, band255, oInt_int,
 dLst_lst, dTup_tup, dLen_lst, dLen_tup, dSeq_lst, dSeq_tup, dSeq_scr, dIx_lst, dIx_tup, at0, at1, at2, at3, at4, at5, at6, at7, dEq_int, dEq_str, dEq_bl, dEq_nn, dEq_ni, dEq_in, dEq_ns, dEq_sn, dEq_is, dEq_si, dNe_int, dNe_str, dNe_ni, dNe_in, dAdd_int,
 isi_bool_non, isi_bool_bl, isi_bool_int, isi_bool_str, isi_bool_lst, isi_bool_tup, isi_bool_dic, isi_int_non, isi_int_bl, isi_int_int, isi_int_str, isi_int_lst, isi_int_tup, isi_int_dic, isi_str_non, isi_str_bl, isi_str_int, isi_str_str, isi_str_lst, isi_str_tup, isi_str_dic, isi_list_non, isi_list_bl, isi_list_int, isi_list_str, isi_list_lst, isi_list_tup, isi_list_dic, isi_tuple_non, isi_tuple_bl, isi_tuple_int, isi_tuple_str, isi_tuple_lst, isi_tuple_tup, isi_tuple_dic, isi_dict_non, isi_dict_bl, isi_dict_int, isi_dict_str, isi_dict_lst, isi_dict_tup, isi_dict_dic,
 List.map_cons, List.map_nil, List.replicate, List.cons_append, List.nil_append, List.append_nil, List.getElem?_cons_zero, List.getElem?_cons_succ, List.getElem?_nil, List.set_cons_zero, List.set_cons_succ, List.set_nil, List.length_cons, List.length_nil, Option.bind_some, Option.bind_none, Option.map_some, Option.map_none, Option.some.injEq, List.cons.injEq, and_true, true_and, and_assoc, exists_eq_left, exists_eq_left', exists_eq_right, exists_eq_right', exists_and_left, exists_const, if_true, if_false, Bool.false_eq_true, reduceCtorEq, put_same, put_put, Dt.int.injEq, Dt.bl.injEq, Dt.adr.injEq, Dt.tup.injEq, Dt.lst.injEq, Dt.str.injEq, decide_eq_true_eq, Bool.not_true, Bool.not_false, T__law_sender_next, hS, il, oD, h7, e7, e8, e9, f9, c2]
        simp [sendM, stop, c1, rowsD, rowD, il, oD] at K'
        exact K'
      · have c2 : ¬ (data.length : Int) ≤ (pos : Int) + 7 := by omega
        by_cases c3 : l = 1
        · subst c3
          have K' := K _ ⟨_, rfl, rfl⟩
          simp [sSeq, sIf, sAsg, sRet, sExpr, sNext, sPar, sRaise, sRetN, sDead, ofP, ofB, ofL, pVar, pC, pOp, pUn, pB, pT, pTup, pLst, aNil, aCons, bAnd_eq, bOr_eq, bNot, pIf_eq, pCall, pFn, oLen,  dAt, dFld, dDic, oIsN, oNotN, isN, asB_bl, dI, dI2, gNm, gFld, gTup2, gKey, gIx, tTupE, tLstE, tLstM, tACons, tCallF, tMethF, tMakeF, tBin, tListM, tApp, tDic, tAll, tIfE, tAndB, tOrB, tTst, tB1, tNotB, setF, startD, oList, vAnd_eq, vOr_eq, vNot, dTru, tRng1, oAll, tUnE, tDead, bDead, sFldU, sNmU, pSl, oSome, oNone, oMin, oMax, asI, pCh_eq, cutD_mid, cutD_to, cutD_from, band15, band255, oInt_int,
 dLst_lst, dTup_tup, dLen_lst, dLen_tup, dSeq_lst, dSeq_tup, dSeq_scr, dIx_lst, dIx_tup, at0, at1, at2, at3, at4, at5, at6, at7, dEq_int, dEq_str, dEq_bl, dEq_nn, dEq_ni, dEq_in, dEq_ns, dEq_sn, dEq_is, dEq_si, dNe_int, dNe_str, dNe_ni, dNe_in, dAdd_int,
 isi_bool_non, isi_bool_bl, isi_bool_int, isi_bool_str, isi_bool_lst, isi_bool_tup, isi_bool_dic, isi_int_non, isi_int_bl, isi_int_int, isi_int_str, isi_int_lst, isi_int_tup, isi_int_dic, isi_str_non, isi_str_bl, isi_str_int, isi_str_str, isi_str_lst, isi_str_tup, isi_str_dic, isi_list_non, isi_list_bl, isi_list_int, isi_list_str, isi_list_lst, isi_list_tup, isi_list_dic, isi_tuple_non, isi_tuple_bl, isi_tuple_int, isi_tuple_str, isi_tuple_lst, isi_tuple_tup, isi_tuple_dic, isi_dict_non, isi_dict_bl, isi_dict_int, isi_dict_str, isi_dict_lst, isi_dict_tup, isi_dict_dic,
 List.map_cons, List.map_nil, List.replicate, List.cons_append, List.nil_append, List.append_nil, List.getElem?_cons_zero, List.getElem?_cons_succ, List.getElem?_nil, List.set_cons_zero, List.set_cons_succ, List.set_nil, List.length_cons, List.length_nil, Option.bind_some, Option.bind_none, Option.map_some, Option.map_none, Option.some.injEq, List.cons.injEq, and_true, true_and, and_assoc, exists_eq_left, exists_eq_left', exists_eq_right, exists_eq_right', exists_and_left, exists_const, if_true, if_false, Bool.false_eq_true, reduceCtorEq, put_same, put_put, Dt.int.injEq, Dt.bl.injEq, Dt.adr.injEq, Dt.tup.injEq, Dt.lst.injEq, Dt.str.injEq, decide_eq_true_eq, Bool.not_true, Bool.not_false, T__law_sender_next, hS, il, oD, h7, e7, e8, e9, f9, c2]
          simp [sendM, stop, c1, rowsD, rowD, il, oD] at K'
          exact K'
        · have c4 : ¬ l - 1 = 0 := by omega
          have K' := K _ ⟨_, rfl, rfl⟩
          simp [sSeq, sIf, sAsg, sRet, sExpr, sNext, sPar, sRaise, sRetN, sDead, ofP, ofB, ofL, pVar, pC, pOp, pUn, pB, pT, pTup, pLst, aNil, aCons, bAnd_eq, bOr_eq, bNot, pIf_eq, pCall, pFn, oLen,  dAt, dFld, dDic, oIsN, oNotN, isN, asB_bl, dI, dI2, gNm, gFld, gTup2, gKey, gIx, tTupE, tLstE, tLstM, tACons, tCallF, tMethF, tMakeF, tBin, tListM, tApp, tDic, tAll, tIfE, tAndB, tOrB, tTst, tB1, tNotB, setF, startD, oList, vAnd_eq, vOr_eq, vNot, dTru, tRng1, oAll, tUnE, tDead, bDead, sFldU, sNmU, pSl, oSome, oNone, oMin, oMax, asI, pCh_eq, cutD_mid, cutD_to, cutD_from, band15, band255, oInt_int,
 dLst_lst, dTup_tup, dLen_lst, dLen_tup, dSeq_lst, dSeq_tup, dSeq_scr, dIx_lst, dIx_tup, at0, at1, at2, at3, at4, at5, at6, at7, dEq_int, dEq_str, dEq_bl, dEq_nn, dEq_ni, dEq_in, dEq_ns, dEq_sn, dEq_is, dEq_si, dNe_int, dNe_str, dNe_ni, dNe_in, dAdd_int,
 isi_bool_non, isi_bool_bl, isi_bool_int, isi_bool_str, isi_bool_lst, isi_bool_tup, isi_bool_dic, isi_int_non, isi_int_bl, isi_int_int, isi_int_str, isi_int_lst, isi_int_tup, isi_int_dic, isi_str_non, isi_str_bl, isi_str_int, isi_str_str, isi_str_lst, isi_str_tup, isi_str_dic, isi_list_non, isi_list_bl, isi_list_int, isi_list_str, isi_list_lst, isi_list_tup, isi_list_dic, isi_tuple_non, isi_tuple_bl, isi_tuple_int, isi_tuple_str, isi_tuple_lst, isi_tuple_tup, isi_tuple_dic, isi_dict_non, isi_dict_bl, isi_dict_int, isi_dict_str, isi_dict_lst, isi_dict_tup, isi_dict_dic,
 List.map_cons, List.map_nil, List.replicate, List.cons_append, List.nil_append, List.append_nil, List.getElem?_cons_zero, List.getElem?_cons_succ, List.getElem?_nil, List.set_cons_zero, List.set_cons_succ, List.set_nil, List.length_cons, List.length_nil, Option.bind_some, Option.bind_none, Option.map_some, Option.map_none, Option.some.injEq, List.cons.injEq, and_true, true_and, and_assoc, exists_eq_left, exists_eq_left', exists_eq_right, exists_eq_right', exists_and_left, exists_const, if_true, if_false, Bool.false_eq_true, reduceCtorEq, put_same, put_put, Dt.int.injEq, Dt.bl.injEq, Dt.adr.injEq, Dt.tup.injEq, Dt.lst.injEq, Dt.str.injEq, decide_eq_true_eq, Bool.not_true, Bool.not_false, T__law_sender_next, hS, il, oD, h7, e7, e8, e9, f9, c2, c4]
          simp [sendM, stop, c1, c4, rowsD, rowD, il, oD] at K'
          exact K'
end K47
set_option maxRecDepth 100000
set_option maxHeartbeats 4000000
namespace K47
open PySem PySem.Spec PyProof.Rows L2 Ax
def Live (m : M) : Prop := m.bell = none ∨ m.state = "waiting" ∨ m.state = "sending"
theorem lW : ("late" : Str) ≠ "waiting" := by decide +kernel
theorem lS : ("late" : Str) ≠ "sending" := by decide +kernel
theorem sW : ¬ (("sending" : Str) = "waiting") := by decide +kernel
theorem Live.send {m : M} (h : Live m) {t : Int} (hs : m.state = "sending") : Live (sendM m t).1 := by
  unfold sendM
  simp only
  split
  · exact .inl rfl
  · split
    · exact .inr (.inl rfl)
    · exact .inr (.inr hs)
theorem live_of {m : M} {b : Int} (h : Live m) (hb : m.bell = some b) (hs : ¬ m.state = "waiting") : m.state = "sending" := by
  rcases h with h | h | h
  · rw [hb] at h
    cases h
  · exact absurd h hs
  · exact h
theorem rows_add {S : Sto} {f g : List (Int × List Int)} (h : f.length + g.length ≤ 1000000) : dAdd S (rowsD f) (rowsD g) = some (rowsD (f ++ g)) := by
  unfold rowsD
  rw [dAdd_lst (by simpa using h), List.map_append]
theorem send_one {m : M} {t : Int} : (sendM m t).2.length = 1 := rfl
theorem len_Sender_go_on (A : Ad) : ∀ ds S Φ Ψ, sp_Sender_go_on A ds S Φ Ψ → ds.length = 2 := fun ds S Φ Ψ ⟨_, _, _, _, e, _⟩ => by rw [e]; rfl
theorem law_Sender_go_on (A : Ad) : ∀ ds S Φ Ψ, sp_Sender_go_on A ds S Φ Ψ → T_Sender_go_on A (LE0 Φ Ψ) (startD 1 ds) S := by
  rintro ds S Φ Ψ ⟨a, c, m, n, rfl, ⟨⟨p, hS, hp⟩, hc, ne, wf⟩, lv, k1, k2⟩
  unfold T_Sender_go_on
  by_cases cn : n < m.now
  · simp [sSeq, sIf, sAsg, sRet, sExpr, sNext, sPar, sRaise, sRetN, sDead, ofP, ofB, ofL, pVar, pC, pOp, pUn, pB, pT, pTup, pLst, aNil, aCons, bAnd_eq, bOr_eq, bNot, pIf_eq, pCall, pFn, oLen,  dAt, dFld, dDic, oIsN, oNotN, isN, asB_bl, dI, dI2, gNm, gFld, gTup2, gKey, gIx, tTupE, tLstE, tLstM, tACons, tCallF, tMethF, tMakeF, tBin, tListM, tApp, tDic, tAll, tIfE, tAndB, tOrB, tTst, tB1, tNotB, setF, startD, oList, vAnd_eq, vOr_eq, vNot, dTru, tRng1, oAll, tUnE, tDead, bDead, sFldU, sNmU, pSl, oSome, oNone, oMin, oMax, asI, pCh_eq, cutD_mid, cutD_to, cutD_from, band15, band255, oInt_int,
 dLst_lst, dTup_tup, dLen_lst, dLen_tup, dSeq_lst, dSeq_tup, dSeq_scr, dIx_lst, dIx_tup, at0, at1, at2, at3, at4, at5, at6, at7, dEq_int, dEq_str, dEq_bl, dEq_nn, dEq_ni, dEq_in, dEq_ns, dEq_sn, dEq_is, dEq_si, dNe_int, dNe_str, dNe_ni, dNe_in, dAdd_int,
 isi_bool_non, isi_bool_bl, isi_bool_int, isi_bool_str, isi_bool_lst, isi_bool_tup, isi_bool_dic, isi_int_non, isi_int_bl, isi_int_int, isi_int_str, isi_int_lst, isi_int_tup, isi_int_dic, isi_str_non, isi_str_bl, isi_str_int, isi_str_str, isi_str_lst, isi_str_tup, isi_str_dic, isi_list_non, isi_list_bl, isi_list_int, isi_list_str, isi_list_lst, isi_list_tup, isi_list_dic, isi_tuple_non, isi_tuple_bl, isi_tuple_int, isi_tuple_str, isi_tuple_lst, isi_tuple_tup, isi_tuple_dic, isi_dict_non, isi_dict_bl, isi_dict_int, isi_dict_str, isi_dict_lst, isi_dict_tup, isi_dict_dic,
 List.map_cons, List.map_nil, List.replicate, List.cons_append, List.nil_append, List.append_nil, List.getElem?_cons_zero, List.getElem?_cons_succ, List.getElem?_nil, List.set_cons_zero, List.set_cons_succ, List.set_nil, List.length_cons, List.length_nil, Option.bind_some, Option.bind_none, Option.map_some, Option.map_none, Option.some.injEq, List.cons.injEq, and_true, true_and, and_assoc, exists_eq_left, exists_eq_left', exists_eq_right, exists_eq_right', exists_and_left, exists_const, if_true, if_false, Bool.false_eq_true, reduceCtorEq, put_same, put_put, Dt.int.injEq, Dt.bl.injEq, Dt.adr.injEq, Dt.tup.injEq, Dt.lst.injEq, Dt.str.injEq, decide_eq_true_eq, Bool.not_true, Bool.not_false, hS, sp_Clock_pass_to, hc, cn]
    exact ⟨k1 cn, fun z => absurd z (by omega)⟩
  obtain ⟨r, hr, k⟩ := k2 cn
  refine seqI (fun ds' S' => ds' = [some (.adr a), some (.int n), some (rowsD [])] ∧ S = S') ?_ ?_
  case refine_2 =>
    intro Q hQ
    simp [sSeq, sIf, sAsg, sRet, sExpr, sNext, sPar, sRaise, sRetN, sDead, ofP, ofB, ofL, pVar, pC, pOp, pUn, pB, pT, pTup, pLst, aNil, aCons, bAnd_eq, bOr_eq, bNot, pIf_eq, pCall, pFn, oLen,  dAt, dFld, dDic, oIsN, oNotN, isN, asB_bl, dI, dI2, gNm, gFld, gTup2, gKey, gIx, tTupE, tLstE, tLstM, tACons, tCallF, tMethF, tMakeF, tBin, tListM, tApp, tDic, tAll, tIfE, tAndB, tOrB, tTst, tB1, tNotB, setF, startD, oList, vAnd_eq, vOr_eq, vNot, dTru, tRng1, oAll, tUnE, tDead, bDead, sFldU, sNmU, pSl, oSome, oNone, oMin, oMax, asI, pCh_eq, cutD_mid, cutD_to, cutD_from, band15, band255, oInt_int,
 dLst_lst, dTup_tup, dLen_lst, dLen_tup, dSeq_lst, dSeq_tup, dSeq_scr, dIx_lst, dIx_tup, at0, at1, at2, at3, at4, at5, at6, at7, dEq_int, dEq_str, dEq_bl, dEq_nn, dEq_ni, dEq_in, dEq_ns, dEq_sn, dEq_is, dEq_si, dNe_int, dNe_str, dNe_ni, dNe_in, dAdd_int,
 isi_bool_non, isi_bool_bl, isi_bool_int, isi_bool_str, isi_bool_lst, isi_bool_tup, isi_bool_dic, isi_int_non, isi_int_bl, isi_int_int, isi_int_str, isi_int_lst, isi_int_tup, isi_int_dic, isi_str_non, isi_str_bl, isi_str_int, isi_str_str, isi_str_lst, isi_str_tup, isi_str_dic, isi_list_non, isi_list_bl, isi_list_int, isi_list_str, isi_list_lst, isi_list_tup, isi_list_dic, isi_tuple_non, isi_tuple_bl, isi_tuple_int, isi_tuple_str, isi_tuple_lst, isi_tuple_tup, isi_tuple_dic, isi_dict_non, isi_dict_bl, isi_dict_int, isi_dict_str, isi_dict_lst, isi_dict_tup, isi_dict_dic,
 List.map_cons, List.map_nil, List.replicate, List.cons_append, List.nil_append, List.append_nil, List.getElem?_cons_zero, List.getElem?_cons_succ, List.getElem?_nil, List.set_cons_zero, List.set_cons_succ, List.set_nil, List.length_cons, List.length_nil, Option.bind_some, Option.bind_none, Option.map_some, Option.map_none, Option.some.injEq, List.cons.injEq, and_true, true_and, and_assoc, exists_eq_left, exists_eq_left', exists_eq_right, exists_eq_right', exists_and_left, exists_const, if_true, if_false, Bool.false_eq_true, reduceCtorEq, put_same, put_put, Dt.int.injEq, Dt.bl.injEq, Dt.adr.injEq, Dt.tup.injEq, Dt.lst.injEq, Dt.str.injEq, decide_eq_true_eq, Bool.not_true, Bool.not_false]
    exact hQ _ _ ⟨rfl, rfl⟩
  rintro _ _ ⟨rfl, rfl⟩
  refine seqI (fun ds' S' => ds' = [some (.adr a), some (.int n), some (rowsD [])] ∧ SAt A S' a c { m with now := n } ∧ Fr2 S S' a c) ?_ ?_
  case refine_2 =>
    intro Q hQ
    simp [sSeq, sIf, sAsg, sRet, sExpr, sNext, sPar, sRaise, sRetN, sDead, ofP, ofB, ofL, pVar, pC, pOp, pUn, pB, pT, pTup, pLst, aNil, aCons, bAnd_eq, bOr_eq, bNot, pIf_eq, pCall, pFn, oLen,  dAt, dFld, dDic, oIsN, oNotN, isN, asB_bl, dI, dI2, gNm, gFld, gTup2, gKey, gIx, tTupE, tLstE, tLstM, tACons, tCallF, tMethF, tMakeF, tBin, tListM, tApp, tDic, tAll, tIfE, tAndB, tOrB, tTst, tB1, tNotB, setF, startD, oList, vAnd_eq, vOr_eq, vNot, dTru, tRng1, oAll, tUnE, tDead, bDead, sFldU, sNmU, pSl, oSome, oNone, oMin, oMax, asI, pCh_eq, cutD_mid, cutD_to, cutD_from, band15, band255, oInt_int,
 dLst_lst, dTup_tup, dLen_lst, dLen_tup, dSeq_lst, dSeq_tup, dSeq_scr, dIx_lst, dIx_tup, at0, at1, at2, at3, at4, at5, at6, at7, dEq_int, dEq_str, dEq_bl, dEq_nn, dEq_ni, dEq_in, dEq_ns, dEq_sn, dEq_is, dEq_si, dNe_int, dNe_str, dNe_ni, dNe_in, dAdd_int,
 isi_bool_non, isi_bool_bl, isi_bool_int, isi_bool_str, isi_bool_lst, isi_bool_tup, isi_bool_dic, isi_int_non, isi_int_bl, isi_int_int, isi_int_str, isi_int_lst, isi_int_tup, isi_int_dic, isi_str_non, isi_str_bl, isi_str_int, isi_str_str, isi_str_lst, isi_str_tup, isi_str_dic, isi_list_non, isi_list_bl, isi_list_int, isi_list_str, isi_list_lst, isi_list_tup, isi_list_dic, isi_tuple_non, isi_tuple_bl, isi_tuple_int, isi_tuple_str, isi_tuple_lst, isi_tuple_tup, isi_tuple_dic, isi_dict_non, isi_dict_bl, isi_dict_int, isi_dict_str, isi_dict_lst, isi_dict_tup, isi_dict_dic,
 List.map_cons, List.map_nil, List.replicate, List.cons_append, List.nil_append, List.append_nil, List.getElem?_cons_zero, List.getElem?_cons_succ, List.getElem?_nil, List.set_cons_zero, List.set_cons_succ, List.set_nil, List.length_cons, List.length_nil, Option.bind_some, Option.bind_none, Option.map_some, Option.map_none, Option.some.injEq, List.cons.injEq, and_true, true_and, and_assoc, exists_eq_left, exists_eq_left', exists_eq_right, exists_eq_right', exists_and_left, exists_const, if_true, if_false, Bool.false_eq_true, reduceCtorEq, put_same, put_put, Dt.int.injEq, Dt.bl.injEq, Dt.adr.injEq, Dt.tup.injEq, Dt.lst.injEq, Dt.str.injEq, decide_eq_true_eq, Bool.not_true, Bool.not_false, hS, sp_Clock_pass_to, hc, cn]
    intro _
    exact hQ _ _ ⟨rfl, ⟨⟨p, by rw [put_ne (Ne.symm ne)]; exact hS, hp⟩, put_same, ne, ⟨wf.len, wf.sw⟩⟩, fun b h1 h2 => put_ne h2⟩
  rintro _ S1 ⟨rfl, hA, hf⟩
  refine seqI (fun ds' S' => ds' = [some (.adr a), some (.int n), some (rowsD r.2)] ∧ SAt A S' a c r.1 ∧ Fr2 S S' a c) ?_ ?_
  · rintro _ S' ⟨rfl, h1, h2⟩
    simp [sSeq, sIf, sAsg, sRet, sExpr, sNext, sPar, sRaise, sRetN, sDead, ofP, ofB, ofL, pVar, pC, pOp, pUn, pB, pT, pTup, pLst, aNil, aCons, bAnd_eq, bOr_eq, bNot, pIf_eq, pCall, pFn, oLen,  dAt, dFld, dDic, oIsN, oNotN, isN, asB_bl, dI, dI2, gNm, gFld, gTup2, gKey, gIx, tTupE, tLstE, tLstM, tACons, tCallF, tMethF, tMakeF, tBin, tListM, tApp, tDic, tAll, tIfE, tAndB, tOrB, tTst, tB1, tNotB, setF, startD, oList, vAnd_eq, vOr_eq, vNot, dTru, tRng1, oAll, tUnE, tDead, bDead, sFldU, sNmU, pSl, oSome, oNone, oMin, oMax, asI, pCh_eq, cutD_mid, cutD_to, cutD_from, band15, band255, oInt_int,
 dLst_lst, dTup_tup, dLen_lst, dLen_tup, dSeq_lst, dSeq_tup, dSeq_scr, dIx_lst, dIx_tup, at0, at1, at2, at3, at4, at5, at6, at7, dEq_int, dEq_str, dEq_bl, dEq_nn, dEq_ni, dEq_in, dEq_ns, dEq_sn, dEq_is, dEq_si, dNe_int, dNe_str, dNe_ni, dNe_in, dAdd_int,
 isi_bool_non, isi_bool_bl, isi_bool_int, isi_bool_str, isi_bool_lst, isi_bool_tup, isi_bool_dic, isi_int_non, isi_int_bl, isi_int_int, isi_int_str, isi_int_lst, isi_int_tup, isi_int_dic, isi_str_non, isi_str_bl, isi_str_int, isi_str_str, isi_str_lst, isi_str_tup, isi_str_dic, isi_list_non, isi_list_bl, isi_list_int, isi_list_str, isi_list_lst, isi_list_tup, isi_list_dic, isi_tuple_non, isi_tuple_bl, isi_tuple_int, isi_tuple_str, isi_tuple_lst, isi_tuple_tup, isi_tuple_dic, isi_dict_non, isi_dict_bl, isi_dict_int, isi_dict_str, isi_dict_lst, isi_dict_tup, isi_dict_dic,
 List.map_cons, List.map_nil, List.replicate, List.cons_append, List.nil_append, List.append_nil, List.getElem?_cons_zero, List.getElem?_cons_succ, List.getElem?_nil, List.set_cons_zero, List.set_cons_succ, List.set_nil, List.length_cons, List.length_nil, Option.bind_some, Option.bind_none, Option.map_some, Option.map_none, Option.some.injEq, List.cons.injEq, and_true, true_and, and_assoc, exists_eq_left, exists_eq_left', exists_eq_right, exists_eq_right', exists_and_left, exists_const, if_true, if_false, Bool.false_eq_true, reduceCtorEq, put_same, put_put, Dt.int.injEq, Dt.bl.injEq, Dt.adr.injEq, Dt.tup.injEq, Dt.lst.injEq, Dt.str.injEq, decide_eq_true_eq, Bool.not_true, Bool.not_false]
    exact k _ h1 h2
  intro Q hQ
  refine ⟨fun j ds' S' => ∃ m' f, ds' = [some (.adr a), some (.int n), some (rowsD f)] ∧ SAt A S' a c m' ∧ Fr2 S S' a c ∧ Live m' ∧ onM j n m' f = some r ∧ f.length + j ≤ 500, ⟨400, _, [], rfl, hA, hf, lv, hr, by simp⟩, ?_⟩
  rintro j _ S' ⟨m', f, rfl, ⟨⟨p', hS', hp'⟩, hc', ne', wf'⟩, hf', lv', ho, hl⟩
  cases j with
  | zero => simp [onM] at ho
  | succ j =>
    rw [onM] at ho
    cases hb : m'.bell with
    | none =>
      rw [hb] at ho
      cases ho
      simp [sSeq, sIf, sAsg, sRet, sExpr, sNext, sPar, sRaise, sRetN, sDead, ofP, ofB, ofL, pVar, pC, pOp, pUn, pB, pT, pTup, pLst, aNil, aCons, bAnd_eq, bOr_eq, bNot, pIf_eq, pCall, pFn, oLen,  dAt, dFld, dDic, oIsN, oNotN, isN, asB_bl, dI, dI2, gNm, gFld, gTup2, gKey, gIx, tTupE, tLstE, tLstM, tACons, tCallF, tMethF, tMakeF, tBin, tListM, tApp, tDic, tAll, tIfE, tAndB, tOrB, tTst, tB1, tNotB, setF, startD, oList, vAnd_eq, vOr_eq, vNot, dTru, tRng1, oAll, tUnE, tDead, bDead, sFldU, sNmU, pSl, oSome, oNone, oMin, oMax, asI, pCh_eq, cutD_mid, cutD_to, cutD_from, band15, band255, oInt_int,
 dLst_lst, dTup_tup, dLen_lst, dLen_tup, dSeq_lst, dSeq_tup, dSeq_scr, dIx_lst, dIx_tup, at0, at1, at2, at3, at4, at5, at6, at7, dEq_int, dEq_str, dEq_bl, dEq_nn, dEq_ni, dEq_in, dEq_ns, dEq_sn, dEq_is, dEq_si, dNe_int, dNe_str, dNe_ni, dNe_in, dAdd_int,
 isi_bool_non, isi_bool_bl, isi_bool_int, isi_bool_str, isi_bool_lst, isi_bool_tup, isi_bool_dic, isi_int_non, isi_int_bl, isi_int_int, isi_int_str, isi_int_lst, isi_int_tup, isi_int_dic, isi_str_non, isi_str_bl, isi_str_int, isi_str_str, isi_str_lst, isi_str_tup, isi_str_dic, isi_list_non, isi_list_bl, isi_list_int, isi_list_str, isi_list_lst, isi_list_tup, isi_list_dic, isi_tuple_non, isi_tuple_bl, isi_tuple_int, isi_tuple_str, isi_tuple_lst, isi_tuple_tup, isi_tuple_dic, isi_dict_non, isi_dict_bl, isi_dict_int, isi_dict_str, isi_dict_lst, isi_dict_tup, isi_dict_dic,
 List.map_cons, List.map_nil, List.replicate, List.cons_append, List.nil_append, List.append_nil, List.getElem?_cons_zero, List.getElem?_cons_succ, List.getElem?_nil, List.set_cons_zero, List.set_cons_succ, List.set_nil, List.length_cons, List.length_nil, Option.bind_some, Option.bind_none, Option.map_some, Option.map_none, Option.some.injEq, List.cons.injEq, and_true, true_and, and_assoc, exists_eq_left, exists_eq_left', exists_eq_right, exists_eq_right', exists_and_left, exists_const, if_true, if_false, Bool.false_eq_true, reduceCtorEq, put_same, put_put, Dt.int.injEq, Dt.bl.injEq, Dt.adr.injEq, Dt.tup.injEq, Dt.lst.injEq, Dt.str.injEq, decide_eq_true_eq, Bool.not_true, Bool.not_false, hS', hb, oD]
      exact hQ _ _ ⟨rfl, ⟨⟨p', by rw [hb]; rw [hb] at hS'; exact hS', hp'⟩, hc', ne', wf'⟩, hf'⟩
    | some b =>
      rw [hb] at ho
      simp only at ho
      by_cases cb : b ≤ n
      · rw [if_pos cb] at ho
        by_cases cw : m'.state = "waiting"
        · rw [if_pos cw] at ho
          simp [sSeq, sIf, sAsg, sRet, sExpr, sNext, sPar, sRaise, sRetN, sDead, ofP, ofB, ofL, pVar, pC, pOp, pUn, pB, pT, pTup, pLst, aNil, aCons, bAnd_eq, bOr_eq, bNot, pIf_eq, pCall, pFn, oLen,  dAt, dFld, dDic, oIsN, oNotN, isN, asB_bl, dI, dI2, gNm, gFld, gTup2, gKey, gIx, tTupE, tLstE, tLstM, tACons, tCallF, tMethF, tMakeF, tBin, tListM, tApp, tDic, tAll, tIfE, tAndB, tOrB, tTst, tB1, tNotB, setF, startD, oList, vAnd_eq, vOr_eq, vNot, dTru, tRng1, oAll, tUnE, tDead, bDead, sFldU, sNmU, pSl, oSome, oNone, oMin, oMax, asI, pCh_eq, cutD_mid, cutD_to, cutD_from, band15, band255, oInt_int,
 dLst_lst, dTup_tup, dLen_lst, dLen_tup, dSeq_lst, dSeq_tup, dSeq_scr, dIx_lst, dIx_tup, at0, at1, at2, at3, at4, at5, at6, at7, dEq_int, dEq_str, dEq_bl, dEq_nn, dEq_ni, dEq_in, dEq_ns, dEq_sn, dEq_is, dEq_si, dNe_int, dNe_str, dNe_ni, dNe_in, dAdd_int,
 isi_bool_non, isi_bool_bl, isi_bool_int, isi_bool_str, isi_bool_lst, isi_bool_tup, isi_bool_dic, isi_int_non, isi_int_bl, isi_int_int, isi_int_str, isi_int_lst, isi_int_tup, isi_int_dic, isi_str_non, isi_str_bl, isi_str_int, isi_str_str, isi_str_lst, isi_str_tup, isi_str_dic, isi_list_non, isi_list_bl, isi_list_int, isi_list_str, isi_list_lst, isi_list_tup, isi_list_dic, isi_tuple_non, isi_tuple_bl, isi_tuple_int, isi_tuple_str, isi_tuple_lst, isi_tuple_tup, isi_tuple_dic, isi_dict_non, isi_dict_bl, isi_dict_int, isi_dict_str, isi_dict_lst, isi_dict_tup, isi_dict_dic,
 List.map_cons, List.map_nil, List.replicate, List.cons_append, List.nil_append, List.append_nil, List.getElem?_cons_zero, List.getElem?_cons_succ, List.getElem?_nil, List.set_cons_zero, List.set_cons_succ, List.set_nil, List.length_cons, List.length_nil, Option.bind_some, Option.bind_none, Option.map_some, Option.map_none, Option.some.injEq, List.cons.injEq, and_true, true_and, and_assoc, exists_eq_left, exists_eq_left', exists_eq_right, exists_eq_right', exists_and_left, exists_const, if_true, if_false, Bool.false_eq_true, reduceCtorEq, put_same, put_put, Dt.int.injEq, Dt.bl.injEq, Dt.adr.injEq, Dt.tup.injEq, Dt.lst.injEq, Dt.str.injEq, decide_eq_true_eq, Bool.not_true, Bool.not_false, hS', hb, oD, cb, cw, sp_Sender_end]
          refine ⟨j, by omega, stop m' "late", f, rfl, ⟨⟨p', ?_, .inl rfl⟩, ?_, ne', wf'.stop lW lS⟩, fun b h1 h2 => by rw [put_ne h1]; exact hf' b h1 h2, .inl rfl, ho, by omega⟩
          · rw [put_same]
            rfl
          · rw [put_ne ne']
            exact hc'
        · rw [if_neg cw] at ho
          have hs := live_of lv' hb cw
          have ra : ∀ S, dAdd S (rowsD f) (rowsD (sendM m' b).2) = _ := fun S => rows_add (S := S) (by rw [send_one]; omega)
          simp [sSeq, sIf, sAsg, sRet, sExpr, sNext, sPar, sRaise, sRetN, sDead, ofP, ofB, ofL, pVar, pC, pOp, pUn, pB, pT, pTup, pLst, aNil, aCons, bAnd_eq, bOr_eq, bNot, pIf_eq, pCall, pFn, oLen,  dAt, dFld, dDic, oIsN, oNotN, isN, asB_bl, dI, dI2, gNm, gFld, gTup2, gKey, gIx, tTupE, tLstE, tLstM, tACons, tCallF, tMethF, tMakeF, tBin, tListM, tApp, tDic, tAll, tIfE, tAndB, tOrB, tTst, tB1, tNotB, setF, startD, oList, vAnd_eq, vOr_eq, vNot, dTru, tRng1, oAll, tUnE, tDead, bDead, sFldU, sNmU, pSl, oSome, oNone, oMin, oMax, asI, pCh_eq, cutD_mid, cutD_to, cutD_from, band15, band255, oInt_int,
 dLst_lst, dTup_tup, dLen_lst, dLen_tup, dSeq_lst, dSeq_tup, dSeq_scr, dIx_lst, dIx_tup, at0, at1, at2, at3, at4, at5, at6, at7, dEq_int, dEq_str, dEq_bl, dEq_nn, dEq_ni, dEq_in, dEq_ns, dEq_sn, dEq_is, dEq_si, dNe_int, dNe_str, dNe_ni, dNe_in, dAdd_int,
 isi_bool_non, isi_bool_bl, isi_bool_int, isi_bool_str, isi_bool_lst, isi_bool_tup, isi_bool_dic, isi_int_non, isi_int_bl, isi_int_int, isi_int_str, isi_int_lst, isi_int_tup, isi_int_dic, isi_str_non, isi_str_bl, isi_str_int, isi_str_str, isi_str_lst, isi_str_tup, isi_str_dic, isi_list_non, isi_list_bl, isi_list_int, isi_list_str, isi_list_lst, isi_list_tup, isi_list_dic, isi_tuple_non, isi_tuple_bl, isi_tuple_int, isi_tuple_str, isi_tuple_lst, isi_tuple_tup, isi_tuple_dic, isi_dict_non, isi_dict_bl, isi_dict_int, isi_dict_str, isi_dict_lst, isi_dict_tup, isi_dict_dic,
 List.map_cons, List.map_nil, List.replicate, List.cons_append, List.nil_append, List.append_nil, List.getElem?_cons_zero, List.getElem?_cons_succ, List.getElem?_nil, List.set_cons_zero, List.set_cons_succ, List.set_nil, List.length_cons, List.length_nil, Option.bind_some, Option.bind_none, Option.map_some, Option.map_none, Option.some.injEq, List.cons.injEq, and_true, true_and, and_assoc, exists_eq_left, exists_eq_left', exists_eq_right, exists_eq_right', exists_and_left, exists_const, if_true, if_false, Bool.false_eq_true, reduceCtorEq, put_same, put_put, Dt.int.injEq, Dt.bl.injEq, Dt.adr.injEq, Dt.tup.injEq, Dt.lst.injEq, Dt.str.injEq, decide_eq_true_eq, Bool.not_true, Bool.not_false, hS', hb, oD, cb, hs, sW]
          refine ⟨a, c, m', b, rfl, ⟨⟨p', by rw [hb]; rw [hs]; rw [hb, hs] at hS'; exact hS', hp'⟩, hc', ne', wf'⟩, by rw [hb]; simp, hs, fun S2 h1 h2 => ?_⟩
          simp [ra]
          exact ⟨j, by omega, _, _, rfl, h1, fun b h3 h4 => (h2 b h3 h4).trans (hf' b h3 h4), lv'.send hs, ho, by rw [List.length_append, send_one]; omega⟩
      · rw [if_neg cb] at ho
        cases ho
        simp [sSeq, sIf, sAsg, sRet, sExpr, sNext, sPar, sRaise, sRetN, sDead, ofP, ofB, ofL, pVar, pC, pOp, pUn, pB, pT, pTup, pLst, aNil, aCons, bAnd_eq, bOr_eq, bNot, pIf_eq, pCall, pFn, oLen,  dAt, dFld, dDic, oIsN, oNotN, isN, asB_bl, dI, dI2, gNm, gFld, gTup2, gKey, gIx, tTupE, tLstE, tLstM, tACons, tCallF, tMethF, tMakeF, tBin, tListM, tApp, tDic, tAll, tIfE, tAndB, tOrB, tTst, tB1, tNotB, setF, startD, oList, vAnd_eq, vOr_eq, vNot, dTru, tRng1, oAll, tUnE, tDead, bDead, sFldU, sNmU, pSl, oSome, oNone, oMin, oMax, asI, pCh_eq, cutD_mid, cutD_to, cutD_from, band15, band255, oInt_int,
 dLst_lst, dTup_tup, dLen_lst, dLen_tup, dSeq_lst, dSeq_tup, dSeq_scr, dIx_lst, dIx_tup, at0, at1, at2, at3, at4, at5, at6, at7, dEq_int, dEq_str, dEq_bl, dEq_nn, dEq_ni, dEq_in, dEq_ns, dEq_sn, dEq_is, dEq_si, dNe_int, dNe_str, dNe_ni, dNe_in, dAdd_int,
 isi_bool_non, isi_bool_bl, isi_bool_int, isi_bool_str, isi_bool_lst, isi_bool_tup, isi_bool_dic, isi_int_non, isi_int_bl, isi_int_int, isi_int_str, isi_int_lst, isi_int_tup, isi_int_dic, isi_str_non, isi_str_bl, isi_str_int, isi_str_str, isi_str_lst, isi_str_tup, isi_str_dic, isi_list_non, isi_list_bl, isi_list_int, isi_list_str, isi_list_lst, isi_list_tup, isi_list_dic, isi_tuple_non, isi_tuple_bl, isi_tuple_int, isi_tuple_str, isi_tuple_lst, isi_tuple_tup, isi_tuple_dic, isi_dict_non, isi_dict_bl, isi_dict_int, isi_dict_str, isi_dict_lst, isi_dict_tup, isi_dict_dic,
 List.map_cons, List.map_nil, List.replicate, List.cons_append, List.nil_append, List.append_nil, List.getElem?_cons_zero, List.getElem?_cons_succ, List.getElem?_nil, List.set_cons_zero, List.set_cons_succ, List.set_nil, List.length_cons, List.length_nil, Option.bind_some, Option.bind_none, Option.map_some, Option.map_none, Option.some.injEq, List.cons.injEq, and_true, true_and, and_assoc, exists_eq_left, exists_eq_left', exists_eq_right, exists_eq_right', exists_and_left, exists_const, if_true, if_false, Bool.false_eq_true, reduceCtorEq, put_same, put_put, Dt.int.injEq, Dt.bl.injEq, Dt.adr.injEq, Dt.tup.injEq, Dt.lst.injEq, Dt.str.injEq, decide_eq_true_eq, Bool.not_true, Bool.not_false, hS', hb, oD, cb]
        exact hQ _ _ ⟨rfl, ⟨⟨p', by rw [hb]; rw [hb] at hS'; exact hS', hp'⟩, hc', ne', wf'⟩, hf'⟩

theorem len__law_sender_on (A : Ad) : ∀ ds S Φ Ψ, sp__law_sender_on A ds S Φ Ψ → ds.length = 2 := fun ds S Φ Ψ ⟨_, _, _, e, _⟩ => by rw [e]; rfl
theorem law__law_sender_on (A : Ad) : ∀ ds S Φ Ψ, sp__law_sender_on A ds S Φ Ψ → T__law_sender_on A (LE0 Φ Ψ) (startD 1 ds) S := by
  rintro ds S Φ Ψ ⟨o, m, n, rfl, ⟨hS, wf⟩, lv, r, hr, k⟩
  unfold T__law_sender_on
  refine seqI (fun ds' S' => ds' = [some (.adr o), some (.int n), some (rowsD [])] ∧ S = S') ?_ ?_
  case refine_2 =>
    intro Q hQ
    simp [sSeq, sIf, sAsg, sRet, sExpr, sNext, sPar, sRaise, sRetN, sDead, ofP, ofB, ofL, pVar, pC, pOp, pUn, pB, pT, pTup, pLst, aNil, aCons, bAnd_eq, bOr_eq, bNot, pIf_eq, pCall, pFn, oLen,  dAt, dFld, dDic, oIsN, oNotN, isN, asB_bl, dI, dI2, gNm, gFld, gTup2, gKey, gIx, tTupE, tLstE, tLstM, tACons, tCallF, tMethF, tMakeF, tBin, tListM, tApp, tDic, tAll, tIfE, tAndB, tOrB, tTst, tB1, tNotB, setF, startD, oList, vAnd_eq, vOr_eq, vNot, dTru, tRng1, oAll, tUnE, tDead, bDead, sFldU, sNmU, pSl, oSome, oNone, oMin, oMax, asI, pCh_eq, cutD_mid, cutD_to, cutD_from, band15, band255, oInt_int,
 dLst_lst, dTup_tup, dLen_lst, dLen_tup, dSeq_lst, dSeq_tup, dSeq_scr, dIx_lst, dIx_tup, at0, at1, at2, at3, at4, at5, at6, at7, dEq_int, dEq_str, dEq_bl, dEq_nn, dEq_ni, dEq_in, dEq_ns, dEq_sn, dEq_is, dEq_si, dNe_int, dNe_str, dNe_ni, dNe_in, dAdd_int,
 isi_bool_non, isi_bool_bl, isi_bool_int, isi_bool_str, isi_bool_lst, isi_bool_tup, isi_bool_dic, isi_int_non, isi_int_bl, isi_int_int, isi_int_str, isi_int_lst, isi_int_tup, isi_int_dic, isi_str_non, isi_str_bl, isi_str_int, isi_str_str, isi_str_lst, isi_str_tup, isi_str_dic, isi_list_non, isi_list_bl, isi_list_int, isi_list_str, isi_list_lst, isi_list_tup, isi_list_dic, isi_tuple_non, isi_tuple_bl, isi_tuple_int, isi_tuple_str, isi_tuple_lst, isi_tuple_tup, isi_tuple_dic, isi_dict_non, isi_dict_bl, isi_dict_int, isi_dict_str, isi_dict_lst, isi_dict_tup, isi_dict_dic,
 List.map_cons, List.map_nil, List.replicate, List.cons_append, List.nil_append, List.append_nil, List.getElem?_cons_zero, List.getElem?_cons_succ, List.getElem?_nil, List.set_cons_zero, List.set_cons_succ, List.set_nil, List.length_cons, List.length_nil, Option.bind_some, Option.bind_none, Option.map_some, Option.map_none, Option.some.injEq, List.cons.injEq, and_true, true_and, and_assoc, exists_eq_left, exists_eq_left', exists_eq_right, exists_eq_right', exists_and_left, exists_const, if_true, if_false, Bool.false_eq_true, reduceCtorEq, put_same, put_put, Dt.int.injEq, Dt.bl.injEq, Dt.adr.injEq, Dt.tup.injEq, Dt.lst.injEq, Dt.str.injEq, decide_eq_true_eq, Bool.not_true, Bool.not_false]
    exact hQ _ _ ⟨rfl, rfl⟩
  rintro _ _ ⟨rfl, rfl⟩
  refine seqI (fun ds' S' => ds' = [some (.adr o), some (.int n), some (rowsD [])] ∧ OAt S' o { m with now := n } ∧ Fr S S' o) ?_ ?_
  case refine_2 =>
    intro Q hQ
    simp [sSeq, sIf, sAsg, sRet, sExpr, sNext, sPar, sRaise, sRetN, sDead, ofP, ofB, ofL, pVar, pC, pOp, pUn, pB, pT, pTup, pLst, aNil, aCons, bAnd_eq, bOr_eq, bNot, pIf_eq, pCall, pFn, oLen,  dAt, dFld, dDic, oIsN, oNotN, isN, asB_bl, dI, dI2, gNm, gFld, gTup2, gKey, gIx, tTupE, tLstE, tLstM, tACons, tCallF, tMethF, tMakeF, tBin, tListM, tApp, tDic, tAll, tIfE, tAndB, tOrB, tTst, tB1, tNotB, setF, startD, oList, vAnd_eq, vOr_eq, vNot, dTru, tRng1, oAll, tUnE, tDead, bDead, sFldU, sNmU, pSl, oSome, oNone, oMin, oMax, asI, pCh_eq, cutD_mid, cutD_to, cutD_from, band15, band255, oInt_int,
 dLst_lst, dTup_tup, dLen_lst, dLen_tup, dSeq_lst, dSeq_tup, dSeq_scr, dIx_lst, dIx_tup, at0, at1, at2, at3, at4, at5, at6, at7, dEq_int, dEq_str, dEq_bl, dEq_nn, dEq_ni, dEq_in, dEq_ns, dEq_sn, dEq_is, dEq_si, dNe_int, dNe_str, dNe_ni, dNe_in, dAdd_int,
 isi_bool_non, isi_bool_bl, isi_bool_int, isi_bool_str, isi_bool_lst, isi_bool_tup, isi_bool_dic, isi_int_non, isi_int_bl, isi_int_int, isi_int_str, isi_int_lst, isi_int_tup, isi_int_dic, isi_str_non, isi_str_bl, isi_str_int, isi_str_str, isi_str_lst, isi_str_tup, isi_str_dic, isi_list_non, isi_list_bl, isi_list_int, isi_list_str, isi_list_lst, isi_list_tup, isi_list_dic, isi_tuple_non, isi_tuple_bl, isi_tuple_int, isi_tuple_str, isi_tuple_lst, isi_tuple_tup, isi_tuple_dic, isi_dict_non, isi_dict_bl, isi_dict_int, isi_dict_str, isi_dict_lst, isi_dict_tup, isi_dict_dic,
 List.map_cons, List.map_nil, List.replicate, List.cons_append, List.nil_append, List.append_nil, List.getElem?_cons_zero, List.getElem?_cons_succ, List.getElem?_nil, List.set_cons_zero, List.set_cons_succ, List.set_nil, List.length_cons, List.length_nil, Option.bind_some, Option.bind_none, Option.map_some, Option.map_none, Option.some.injEq, List.cons.injEq, and_true, true_and, and_assoc, exists_eq_left, exists_eq_left', exists_eq_right, exists_eq_right', exists_and_left, exists_const, if_true, if_false, Bool.false_eq_true, reduceCtorEq, put_same, put_put, Dt.int.injEq, Dt.bl.injEq, Dt.adr.injEq, Dt.tup.injEq, Dt.lst.injEq, Dt.str.injEq, decide_eq_true_eq, Bool.not_true, Bool.not_false, hS]
    exact hQ _ _ ⟨rfl, ⟨put_same, ⟨wf.len, wf.sw⟩⟩, fr_put⟩
  rintro _ S1 ⟨rfl, hA, hf⟩
  refine seqI (fun ds' S' => ds' = [some (.adr o), some (.int n), some (rowsD r.2)] ∧ OAt S' o r.1 ∧ Fr S S' o) ?_ ?_
  · rintro _ S' ⟨rfl, h1, h2⟩
    simp [sSeq, sIf, sAsg, sRet, sExpr, sNext, sPar, sRaise, sRetN, sDead, ofP, ofB, ofL, pVar, pC, pOp, pUn, pB, pT, pTup, pLst, aNil, aCons, bAnd_eq, bOr_eq, bNot, pIf_eq, pCall, pFn, oLen,  dAt, dFld, dDic, oIsN, oNotN, isN, asB_bl, dI, dI2, gNm, gFld, gTup2, gKey, gIx, tTupE, tLstE, tLstM, tACons, tCallF, tMethF, tMakeF, tBin, tListM, tApp, tDic, tAll, tIfE, tAndB, tOrB, tTst, tB1, tNotB, setF, startD, oList, vAnd_eq, vOr_eq, vNot, dTru, tRng1, oAll, tUnE, tDead, bDead, sFldU, sNmU, pSl, oSome, oNone, oMin, oMax, asI, pCh_eq, cutD_mid, cutD_to, cutD_from, band15, band255, oInt_int,
 dLst_lst, dTup_tup, dLen_lst, dLen_tup, dSeq_lst, dSeq_tup, dSeq_scr, dIx_lst, dIx_tup, at0, at1, at2, at3, at4, at5, at6, at7, dEq_int, dEq_str, dEq_bl, dEq_nn, dEq_ni, dEq_in, dEq_ns, dEq_sn, dEq_is, dEq_si, dNe_int, dNe_str, dNe_ni, dNe_in, dAdd_int,
 isi_bool_non, isi_bool_bl, isi_bool_int, isi_bool_str, isi_bool_lst, isi_bool_tup, isi_bool_dic, isi_int_non, isi_int_bl, isi_int_int, isi_int_str, isi_int_lst, isi_int_tup, isi_int_dic, isi_str_non, isi_str_bl, isi_str_int, isi_str_str, isi_str_lst, isi_str_tup, isi_str_dic, isi_list_non, isi_list_bl, isi_list_int, isi_list_str, isi_list_lst, isi_list_tup, isi_list_dic, isi_tuple_non, isi_tuple_bl, isi_tuple_int, isi_tuple_str, isi_tuple_lst, isi_tuple_tup, isi_tuple_dic, isi_dict_non, isi_dict_bl, isi_dict_int, isi_dict_str, isi_dict_lst, isi_dict_tup, isi_dict_dic,
 List.map_cons, List.map_nil, List.replicate, List.cons_append, List.nil_append, List.append_nil, List.getElem?_cons_zero, List.getElem?_cons_succ, List.getElem?_nil, List.set_cons_zero, List.set_cons_succ, List.set_nil, List.length_cons, List.length_nil, Option.bind_some, Option.bind_none, Option.map_some, Option.map_none, Option.some.injEq, List.cons.injEq, and_true, true_and, and_assoc, exists_eq_left, exists_eq_left', exists_eq_right, exists_eq_right', exists_and_left, exists_const, if_true, if_false, Bool.false_eq_true, reduceCtorEq, put_same, put_put, Dt.int.injEq, Dt.bl.injEq, Dt.adr.injEq, Dt.tup.injEq, Dt.lst.injEq, Dt.str.injEq, decide_eq_true_eq, Bool.not_true, Bool.not_false]
    exact k _ h1 h2
  intro Q hQ
  refine ⟨fun j ds' S' => ∃ m' f, ds' = [some (.adr o), some (.int n), some (rowsD f)] ∧ OAt S' o m' ∧ Fr S S' o ∧ Live m' ∧ onM j n m' f = some r ∧ f.length + j ≤ 500, ⟨400, _, [], rfl, hA, hf, lv, hr, by simp⟩, ?_⟩
  rintro j _ S' ⟨m', f, rfl, ⟨hS', wf'⟩, hf', lv', ho, hl⟩
  cases j with
  | zero => simp [onM] at ho
  | succ j =>
    rw [onM] at ho
    cases hb : m'.bell with
    | none =>
      rw [hb] at ho
      cases ho
      simp [sSeq, sIf, sAsg, sRet, sExpr, sNext, sPar, sRaise, sRetN, sDead, ofP, ofB, ofL, pVar, pC, pOp, pUn, pB, pT, pTup, pLst, aNil, aCons, bAnd_eq, bOr_eq, bNot, pIf_eq, pCall, pFn, oLen,  dAt, dFld, dDic, oIsN, oNotN, isN, asB_bl, dI, dI2, gNm, gFld, gTup2, gKey, gIx, tTupE, tLstE, tLstM, tACons, tCallF, tMethF, tMakeF, tBin, tListM, tApp, tDic, tAll, tIfE, tAndB, tOrB, tTst, tB1, tNotB, setF, startD, oList, vAnd_eq, vOr_eq, vNot, dTru, tRng1, oAll, tUnE, tDead, bDead, sFldU, sNmU, pSl, oSome, oNone, oMin, oMax, asI, pCh_eq, cutD_mid, cutD_to, cutD_from, band15, band255, oInt_int,
 dLst_lst, dTup_tup, dLen_lst, dLen_tup, dSeq_lst, dSeq_tup, dSeq_scr, dIx_lst, dIx_tup, at0, at1, at2, at3, at4, at5, at6, at7, dEq_int, dEq_str, dEq_bl, dEq_nn, dEq_ni, dEq_in, dEq_ns, dEq_sn, dEq_is, dEq_si, dNe_int, dNe_str, dNe_ni, dNe_in, dAdd_int,
 isi_bool_non, isi_bool_bl, isi_bool_int, isi_bool_str, isi_bool_lst, isi_bool_tup, isi_bool_dic, isi_int_non, isi_int_bl, isi_int_int, isi_int_str, isi_int_lst, isi_int_tup, isi_int_dic, isi_str_non, isi_str_bl, isi_str_int, isi_str_str, isi_str_lst, isi_str_tup, isi_str_dic, isi_list_non, isi_list_bl, isi_list_int, isi_list_str, isi_list_lst, isi_list_tup, isi_list_dic, isi_tuple_non, isi_tuple_bl, isi_tuple_int, isi_tuple_str, isi_tuple_lst, isi_tuple_tup, isi_tuple_dic, isi_dict_non, isi_dict_bl, isi_dict_int, isi_dict_str, isi_dict_lst, isi_dict_tup, isi_dict_dic,
 List.map_cons, List.map_nil, List.replicate, List.cons_append, List.nil_append, List.append_nil, List.getElem?_cons_zero, List.getElem?_cons_succ, List.getElem?_nil, List.set_cons_zero, List.set_cons_succ, List.set_nil, List.length_cons, List.length_nil, Option.bind_some, Option.bind_none, Option.map_some, Option.map_none, Option.some.injEq, List.cons.injEq, and_true, true_and, and_assoc, exists_eq_left, exists_eq_left', exists_eq_right, exists_eq_right', exists_and_left, exists_const, if_true, if_false, Bool.false_eq_true, reduceCtorEq, put_same, put_put, Dt.int.injEq, Dt.bl.injEq, Dt.adr.injEq, Dt.tup.injEq, Dt.lst.injEq, Dt.str.injEq, decide_eq_true_eq, Bool.not_true, Bool.not_false, hS', hb, oD]
      exact hQ _ _ ⟨rfl, ⟨by rw [hb]; rw [hb] at hS'; exact hS', wf'⟩, hf'⟩
    | some b =>
      rw [hb] at ho
      simp only at ho
      by_cases cb : b ≤ n
      · rw [if_pos cb] at ho
        by_cases cw : m'.state = "waiting"
        · rw [if_pos cw] at ho
          simp [sSeq, sIf, sAsg, sRet, sExpr, sNext, sPar, sRaise, sRetN, sDead, ofP, ofB, ofL, pVar, pC, pOp, pUn, pB, pT, pTup, pLst, aNil, aCons, bAnd_eq, bOr_eq, bNot, pIf_eq, pCall, pFn, oLen,  dAt, dFld, dDic, oIsN, oNotN, isN, asB_bl, dI, dI2, gNm, gFld, gTup2, gKey, gIx, tTupE, tLstE, tLstM, tACons, tCallF, tMethF, tMakeF, tBin, tListM, tApp, tDic, tAll, tIfE, tAndB, tOrB, tTst, tB1, tNotB, setF, startD, oList, vAnd_eq, vOr_eq, vNot, dTru, tRng1, oAll, tUnE, tDead, bDead, sFldU, sNmU, pSl, oSome, oNone, oMin, oMax, asI, pCh_eq, cutD_mid, cutD_to, cutD_from, band15, band255, oInt_int,
 dLst_lst, dTup_tup, dLen_lst, dLen_tup, dSeq_lst, dSeq_tup, dSeq_scr, dIx_lst, dIx_tup, at0, at1, at2, at3, at4, at5, at6, at7, dEq_int, dEq_str, dEq_bl, dEq_nn, dEq_ni, dEq_in, dEq_ns, dEq_sn, dEq_is, dEq_si, dNe_int, dNe_str, dNe_ni, dNe_in, dAdd_int,
 isi_bool_non, isi_bool_bl, isi_bool_int, isi_bool_str, isi_bool_lst, isi_bool_tup, isi_bool_dic, isi_int_non, isi_int_bl, isi_int_int, isi_int_str, isi_int_lst, isi_int_tup, isi_int_dic, isi_str_non, isi_str_bl, isi_str_int, isi_str_str, isi_str_lst, isi_str_tup, isi_str_dic, isi_list_non, isi_list_bl, isi_list_int, isi_list_str, isi_list_lst, isi_list_tup, isi_list_dic, isi_tuple_non, isi_tuple_bl, isi_tuple_int, isi_tuple_str, isi_tuple_lst, isi_tuple_tup, isi_tuple_dic, isi_dict_non, isi_dict_bl, isi_dict_int, isi_dict_str, isi_dict_lst, isi_dict_tup, isi_dict_dic,
 List.map_cons, List.map_nil, List.replicate, List.cons_append, List.nil_append, List.append_nil, List.getElem?_cons_zero, List.getElem?_cons_succ, List.getElem?_nil, List.set_cons_zero, List.set_cons_succ, List.set_nil, List.length_cons, List.length_nil, Option.bind_some, Option.bind_none, Option.map_some, Option.map_none, Option.some.injEq, List.cons.injEq, and_true, true_and, and_assoc, exists_eq_left, exists_eq_left', exists_eq_right, exists_eq_right', exists_and_left, exists_const, if_true, if_false, Bool.false_eq_true, reduceCtorEq, put_same, put_put, Dt.int.injEq, Dt.bl.injEq, Dt.adr.injEq, Dt.tup.injEq, Dt.lst.injEq, Dt.str.injEq, decide_eq_true_eq, Bool.not_true, Bool.not_false, hS', hb, oD, cb, cw]
          refine ⟨j, by omega, stop m' "late", f, rfl, ⟨?_, wf'.stop lW lS⟩, fun b h1 => by rw [put_ne h1]; exact hf' b h1, .inl rfl, ho, by omega⟩
          rw [put_same]
          rfl
        · rw [if_neg cw] at ho
          have hs := live_of lv' hb cw
          have ra : ∀ S, dAdd S (rowsD f) (rowsD (sendM m' b).2) = _ := fun S => rows_add (S := S) (by rw [send_one]; omega)
          simp [sSeq, sIf, sAsg, sRet, sExpr, sNext, sPar, sRaise, sRetN, sDead, ofP, ofB, ofL, pVar, pC, pOp, pUn, pB, pT, pTup, pLst, aNil, aCons, bAnd_eq, bOr_eq, bNot, pIf_eq, pCall, pFn, oLen,  dAt, dFld, dDic, oIsN, oNotN, isN, asB_bl, dI, dI2, gNm, gFld, gTup2, gKey, gIx, tTupE, tLstE, tLstM, tACons, tCallF, tMethF, tMakeF, tBin, tListM, tApp, tDic, tAll, tIfE, tAndB, tOrB, tTst, tB1, tNotB, setF, startD, oList, vAnd_eq, vOr_eq, vNot, dTru, tRng1, oAll, tUnE, tDead, bDead, sFldU, sNmU, pSl, oSome, oNone, oMin, oMax, asI, pCh_eq, cutD_mid, cutD_to, cutD_from, band15, band255, oInt_int,
 dLst_lst, dTup_tup, dLen_lst, dLen_tup, dSeq_lst, dSeq_tup, dSeq_scr, dIx_lst, dIx_tup, at0, at1, at2, at3, at4, at5, at6, at7, dEq_int, dEq_str, dEq_bl, dEq_nn, dEq_ni, dEq_in, dEq_ns, dEq_sn, dEq_is, dEq_si, dNe_int, dNe_str, dNe_ni, dNe_in, dAdd_int,
 isi_bool_non, isi_bool_bl, isi_bool_int, isi_bool_str, isi_bool_lst, isi_bool_tup, isi_bool_dic, isi_int_non, isi_int_bl, isi_int_int, isi_int_str, isi_int_lst, isi_int_tup, isi_int_dic, isi_str_non, isi_str_bl, isi_str_int, isi_str_str, isi_str_lst, isi_str_tup, isi_str_dic, isi_list_non, isi_list_bl, isi_list_int, isi_list_str, isi_list_lst, isi_list_tup, isi_list_dic, isi_tuple_non, isi_tuple_bl, isi_tuple_int, isi_tuple_str, isi_tuple_lst, isi_tuple_tup, isi_tuple_dic, isi_dict_non, isi_dict_bl, isi_dict_int, isi_dict_str, isi_dict_lst, isi_dict_tup, isi_dict_dic,
 List.map_cons, List.map_nil, List.replicate, List.cons_append, List.nil_append, List.append_nil, List.getElem?_cons_zero, List.getElem?_cons_succ, List.getElem?_nil, List.set_cons_zero, List.set_cons_succ, List.set_nil, List.length_cons, List.length_nil, Option.bind_some, Option.bind_none, Option.map_some, Option.map_none, Option.some.injEq, List.cons.injEq, and_true, true_and, and_assoc, exists_eq_left, exists_eq_left', exists_eq_right, exists_eq_right', exists_and_left, exists_const, if_true, if_false, Bool.false_eq_true, reduceCtorEq, put_same, put_put, Dt.int.injEq, Dt.bl.injEq, Dt.adr.injEq, Dt.tup.injEq, Dt.lst.injEq, Dt.str.injEq, decide_eq_true_eq, Bool.not_true, Bool.not_false, hS', hb, oD, cb, hs, sW]
          refine ⟨o, m', b, rfl, ⟨by rw [hb]; rw [hs]; rw [hb, hs] at hS'; exact hS', wf'⟩, by rw [hb]; simp, hs, fun S2 h1 h2 => ?_⟩
          simp [ra]
          exact ⟨j, by omega, _, _, rfl, h1, fun b h3 => (h2 b h3).trans (hf' b h3), lv'.send hs, ho, by rw [List.length_append, send_one]; omega⟩
      · rw [if_neg cb] at ho
        cases ho
        simp [sSeq, sIf, sAsg, sRet, sExpr, sNext, sPar, sRaise, sRetN, sDead, ofP, ofB, ofL, pVar, pC, pOp, pUn, pB, pT, pTup, pLst, aNil, aCons, bAnd_eq, bOr_eq, bNot, pIf_eq, pCall, pFn, oLen,  dAt, dFld, dDic, oIsN, oNotN, isN, asB_bl, dI, dI2, gNm, gFld, gTup2, gKey, gIx, tTupE, tLstE, tLstM, tACons, tCallF, tMethF, tMakeF, tBin, tListM, tApp, tDic, tAll, tIfE, tAndB, tOrB, tTst, tB1, tNotB, setF, startD, oList, vAnd_eq, vOr_eq, vNot, dTru, tRng1, oAll, tUnE, tDead, bDead, sFldU, sNmU, pSl, oSome, oNone, oMin, oMax, asI, pCh_eq, cutD_mid, cutD_to, cutD_from, band15, band255, oInt_int,
 dLst_lst, dTup_tup, dLen_lst, dLen_tup, dSeq_lst, dSeq_tup, dSeq_scr, dIx_lst, dIx_tup, at0, at1, at2, at3, at4, at5, at6, at7, dEq_int, dEq_str, dEq_bl, dEq_nn, dEq_ni, dEq_in, dEq_ns, dEq_sn, dEq_is, dEq_si, dNe_int, dNe_str, dNe_ni, dNe_in, dAdd_int,
 isi_bool_non, isi_bool_bl, isi_bool_int, isi_bool_str, isi_bool_lst, isi_bool_tup, isi_bool_dic, isi_int_non, isi_int_bl, isi_int_int, isi_int_str, isi_int_lst, isi_int_tup, isi_int_dic, isi_str_non, isi_str_bl, isi_str_int, isi_str_str, isi_str_lst, isi_str_tup, isi_str_dic, isi_list_non, isi_list_bl, isi_list_int, isi_list_str, isi_list_lst, isi_list_tup, isi_list_dic, isi_tuple_non, isi_tuple_bl, isi_tuple_int, isi_tuple_str, isi_tuple_lst, isi_tuple_tup, isi_tuple_dic, isi_dict_non, isi_dict_bl, isi_dict_int, isi_dict_str, isi_dict_lst, isi_dict_tup, isi_dict_dic,
 List.map_cons, List.map_nil, List.replicate, List.cons_append, List.nil_append, List.append_nil, List.getElem?_cons_zero, List.getElem?_cons_succ, List.getElem?_nil, List.set_cons_zero, List.set_cons_succ, List.set_nil, List.length_cons, List.length_nil, Option.bind_some, Option.bind_none, Option.map_some, Option.map_none, Option.some.injEq, List.cons.injEq, and_true, true_and, and_assoc, exists_eq_left, exists_eq_left', exists_eq_right, exists_eq_right', exists_and_left, exists_const, if_true, if_false, Bool.false_eq_true, reduceCtorEq, put_same, put_put, Dt.int.injEq, Dt.bl.injEq, Dt.adr.injEq, Dt.tup.injEq, Dt.lst.injEq, Dt.str.injEq, decide_eq_true_eq, Bool.not_true, Bool.not_false, hS', hb, oD, cb]
        exact hQ _ _ ⟨rfl, ⟨by rw [hb]; rw [hb] at hS'; exact hS', wf'⟩, hf'⟩
end K47
set_option maxRecDepth 100000
set_option maxHeartbeats 4000000
namespace K47
open PySem PySem.Spec PyProof.Rows L2 Ax
theorem WF.start {m : M} (h : WF m) {t : Int} : WF (startM m t).1 := by
  unfold startM
  simp only
  split
  · exact ⟨h.len, fun _ => ⟨dW, dS⟩⟩
  · exact ⟨h.len, fun z => by simp at z⟩
theorem single_ok {S : Sto} {xs : List Int} (h : xs.length ≤ 300) : g_single [.lst (xs.map Dt.int)] S = some (il ((xs.length : Int) :: xs)) := by
  have : xs.length ≤ 1000 := by omega
  simp only [g_single, List.length_map, this, if_true, il, List.map_cons]
theorem first_ok {S : Sto} {xs : List Int} (h : xs.length ≤ 300) : g_first [.lst (xs.map Dt.int)] S = some (il ((16 + (xs.length : Int) / 256) :: (xs.length : Int) % 256 :: xs.take 6)) := by
  have : xs.length ≤ 1000 := by omega
  simp only [g_first, List.length_map, this, if_true, il, List.map_cons, List.map_take]
theorem len_Sender_begin (A : Ad) : ∀ ds S Φ Ψ, sp_Sender_begin A ds S Φ Ψ → ds.length = 2 := fun ds S Φ Ψ ⟨_, _, _, _, e, _⟩ => by rw [e]; rfl
theorem law_Sender_begin (A : Ad) : ∀ ds S Φ Ψ, sp_Sender_begin A ds S Φ Ψ → T_Sender_begin A (LE0 Φ Ψ) (startD 0 ds) S := by
  rintro ds S Φ Ψ ⟨a, c, m, n, rfl, ⟨⟨p, hS, hp⟩, hc, ne, wf⟩, k1, k2, k3⟩
  unfold T_Sender_begin
  by_cases cn : n < m.now
  · simp [sSeq, sIf, sAsg, sRet, sExpr, sNext, sPar, sRaise, sRetN, sDead, ofP, ofB, ofL, pVar, pC, pOp, pUn, pB, pT, pTup, pLst, aNil, aCons, bAnd_eq, bOr_eq, bNot, pIf_eq, pCall, pFn, oLen,  dAt, dFld, dDic, oIsN, oNotN, isN, asB_bl, dI, dI2, gNm, gFld, gTup2, gKey, gIx, tTupE, tLstE, tLstM, tACons, tCallF, tMethF, tMakeF, tBin, tListM, tApp, tDic, tAll, tIfE, tAndB, tOrB, tTst, tB1, tNotB, setF, startD, oList, vAnd_eq, vOr_eq, vNot, dTru, tRng1, oAll, tUnE, tDead, bDead, sFldU, sNmU, pSl, oSome, oNone, oMin, oMax, asI, pCh_eq, cutD_mid, cutD_to, cutD_from, band15, band255, oInt_int,
 dLst_lst, dTup_tup, dLen_lst, dLen_tup, dSeq_lst, dSeq_tup, dSeq_scr, dIx_lst, dIx_tup, at0, at1, at2, at3, at4, at5, at6, at7, dEq_int, dEq_str, dEq_bl, dEq_nn, dEq_ni, dEq_in, dEq_ns, dEq_sn, dEq_is, dEq_si, dNe_int, dNe_str, dNe_ni, dNe_in, dAdd_int,
 isi_bool_non, isi_bool_bl, isi_bool_int, isi_bool_str, isi_bool_lst, isi_bool_tup, isi_bool_dic, isi_int_non, isi_int_bl, isi_int_int, isi_int_str, isi_int_lst, isi_int_tup, isi_int_dic, isi_str_non, isi_str_bl, isi_str_int, isi_str_str, isi_str_lst, isi_str_tup, isi_str_dic, isi_list_non, isi_list_bl, isi_list_int, isi_list_str, isi_list_lst, isi_list_tup, isi_list_dic, isi_tuple_non, isi_tuple_bl, isi_tuple_int, isi_tuple_str, isi_tuple_lst, isi_tuple_tup, isi_tuple_dic, isi_dict_non, isi_dict_bl, isi_dict_int, isi_dict_str, isi_dict_lst, isi_dict_tup, isi_dict_dic,
 List.map_cons, List.map_nil, List.replicate, List.cons_append, List.nil_append, List.append_nil, List.getElem?_cons_zero, List.getElem?_cons_succ, List.getElem?_nil, List.set_cons_zero, List.set_cons_succ, List.set_nil, List.length_cons, List.length_nil, Option.bind_some, Option.bind_none, Option.map_some, Option.map_none, Option.some.injEq, List.cons.injEq, and_true, true_and, and_assoc, exists_eq_left, exists_eq_left', exists_eq_right, exists_eq_right', exists_and_left, exists_const, if_true, if_false, Bool.false_eq_true, reduceCtorEq, put_same, put_put, Dt.int.injEq, Dt.bl.injEq, Dt.adr.injEq, Dt.tup.injEq, Dt.lst.injEq, Dt.str.injEq, decide_eq_true_eq, Bool.not_true, Bool.not_false, hS, sp_Clock_pass_to, hc, cn]
    exact ⟨k1 cn, fun z => absurd z (by omega)⟩
  refine seqI (fun ds' S' => ds' = [some (.adr a), some (.int n)] ∧ SAt A S' a c { m with now := n } ∧ Fr2 S S' a c) ?_ ?_
  case refine_2 =>
    intro Q hQ
    simp [sSeq, sIf, sAsg, sRet, sExpr, sNext, sPar, sRaise, sRetN, sDead, ofP, ofB, ofL, pVar, pC, pOp, pUn, pB, pT, pTup, pLst, aNil, aCons, bAnd_eq, bOr_eq, bNot, pIf_eq, pCall, pFn, oLen,  dAt, dFld, dDic, oIsN, oNotN, isN, asB_bl, dI, dI2, gNm, gFld, gTup2, gKey, gIx, tTupE, tLstE, tLstM, tACons, tCallF, tMethF, tMakeF, tBin, tListM, tApp, tDic, tAll, tIfE, tAndB, tOrB, tTst, tB1, tNotB, setF, startD, oList, vAnd_eq, vOr_eq, vNot, dTru, tRng1, oAll, tUnE, tDead, bDead, sFldU, sNmU, pSl, oSome, oNone, oMin, oMax, asI, pCh_eq, cutD_mid, cutD_to, cutD_from, band15, band255, oInt_int,
 dLst_lst, dTup_tup, dLen_lst, dLen_tup, dSeq_lst, dSeq_tup, dSeq_scr, dIx_lst, dIx_tup, at0, at1, at2, at3, at4, at5, at6, at7, dEq_int, dEq_str, dEq_bl, dEq_nn, dEq_ni, dEq_in, dEq_ns, dEq_sn, dEq_is, dEq_si, dNe_int, dNe_str, dNe_ni, dNe_in, dAdd_int,
 isi_bool_non, isi_bool_bl, isi_bool_int, isi_bool_str, isi_bool_lst, isi_bool_tup, isi_bool_dic, isi_int_non, isi_int_bl, isi_int_int, isi_int_str, isi_int_lst, isi_int_tup, isi_int_dic, isi_str_non, isi_str_bl, isi_str_int, isi_str_str, isi_str_lst, isi_str_tup, isi_str_dic, isi_list_non, isi_list_bl, isi_list_int, isi_list_str, isi_list_lst, isi_list_tup, isi_list_dic, isi_tuple_non, isi_tuple_bl, isi_tuple_int, isi_tuple_str, isi_tuple_lst, isi_tuple_tup, isi_tuple_dic, isi_dict_non, isi_dict_bl, isi_dict_int, isi_dict_str, isi_dict_lst, isi_dict_tup, isi_dict_dic,
 List.map_cons, List.map_nil, List.replicate, List.cons_append, List.nil_append, List.append_nil, List.getElem?_cons_zero, List.getElem?_cons_succ, List.getElem?_nil, List.set_cons_zero, List.set_cons_succ, List.set_nil, List.length_cons, List.length_nil, Option.bind_some, Option.bind_none, Option.map_some, Option.map_none, Option.some.injEq, List.cons.injEq, and_true, true_and, and_assoc, exists_eq_left, exists_eq_left', exists_eq_right, exists_eq_right', exists_and_left, exists_const, if_true, if_false, Bool.false_eq_true, reduceCtorEq, put_same, put_put, Dt.int.injEq, Dt.bl.injEq, Dt.adr.injEq, Dt.tup.injEq, Dt.lst.injEq, Dt.str.injEq, decide_eq_true_eq, Bool.not_true, Bool.not_false, hS, sp_Clock_pass_to, hc, cn]
    intro _
    exact hQ _ _ ⟨rfl, ⟨⟨p, by rw [put_ne (Ne.symm ne)]; exact hS, hp⟩, put_same, ne, ⟨wf.len, wf.sw⟩⟩, fun b h1 h2 => put_ne h2⟩
  rintro _ S1 ⟨rfl, hA, hf⟩
  by_cases cs : m.state = "new"
  · have k := k3 cn cs
    clear k1 k2 k3 hS hp hc
    obtain ⟨⟨p, hS, hp⟩, hc, _, _⟩ := hA
    have wfs := wf.start (t := n)
    by_cases c8 : m.data.length < 8
    · have c8' : (m.data.length : Int) < 8 := by omega
      have sg : ∀ S, g_single [.lst (m.data.map Dt.int)] S = _ := fun S => single_ok (S := S) wf.len
      have k' := k (S1.put a (.ins A.k_Sender [il m.data, .int m.waits, .str "done", .adr c, .int p, .int m.number, oD m.left, .int m.gap, .non])) ⟨⟨p, by simp [put_same, startM, c8, stop, oD], by simp [startM, c8, stop]⟩, by rw [put_ne ne]; simp [startM, c8, stop]; exact hc, ne, wfs⟩ fun b h1 h2 => by rw [put_ne h1]; exact hf b h1 h2
      simp [sSeq, sIf, sAsg, sRet, sExpr, sNext, sPar, sRaise, sRetN, sDead, ofP, ofB, ofL, pVar, pC, pOp, pUn, pB, pT, pTup, pLst, aNil, aCons, bAnd_eq, bOr_eq, bNot, pIf_eq, pCall, pFn, oLen,  dAt, dFld, dDic, oIsN, oNotN, isN, asB_bl, dI, dI2, gNm, gFld, gTup2, gKey, gIx, tTupE, tLstE, tLstM, tACons, tCallF, tMethF, tMakeF, tBin, tListM, tApp, tDic, tAll, tIfE, tAndB, tOrB, tTst, tB1, tNotB, setF, startD, oList, vAnd_eq, vOr_eq, vNot, dTru, tRng1, oAll, tUnE, tDead, bDead, sFldU, sNmU, pSl, oSome, oNone, oMin, oMax, asI, pCh_eq, cutD_mid, cutD_to, cutD_from, band15, band255, oInt_int,
 dLst_lst, dTup_tup, dLen_lst, dLen_tup, dSeq_lst, dSeq_tup, dSeq_scr, dIx_lst, dIx_tup, at0, at1, at2, at3, at4, at5, at6, at7, dEq_int, dEq_str, dEq_bl, dEq_nn, dEq_ni, dEq_in, dEq_ns, dEq_sn, dEq_is, dEq_si, dNe_int, dNe_str, dNe_ni, dNe_in, dAdd_int,
 isi_bool_non, isi_bool_bl, isi_bool_int, isi_bool_str, isi_bool_lst, isi_bool_tup, isi_bool_dic, isi_int_non, isi_int_bl, isi_int_int, isi_int_str, isi_int_lst, isi_int_tup, isi_int_dic, isi_str_non, isi_str_bl, isi_str_int, isi_str_str, isi_str_lst, isi_str_tup, isi_str_dic, isi_list_non, isi_list_bl, isi_list_int, isi_list_str, isi_list_lst, isi_list_tup, isi_list_dic, isi_tuple_non, isi_tuple_bl, isi_tuple_int, isi_tuple_str, isi_tuple_lst, isi_tuple_tup, isi_tuple_dic, isi_dict_non, isi_dict_bl, isi_dict_int, isi_dict_str, isi_dict_lst, isi_dict_tup, isi_dict_dic,
 List.map_cons, List.map_nil, List.replicate, List.cons_append, List.nil_append, List.append_nil, List.getElem?_cons_zero, List.getElem?_cons_succ, List.getElem?_nil, List.set_cons_zero, List.set_cons_succ, List.set_nil, List.length_cons, List.length_nil, Option.bind_some, Option.bind_none, Option.map_some, Option.map_none, Option.some.injEq, List.cons.injEq, and_true, true_and, and_assoc, exists_eq_left, exists_eq_left', exists_eq_right, exists_eq_right', exists_and_left, exists_const, if_true, if_false, Bool.false_eq_true, reduceCtorEq, put_same, put_put, Dt.int.injEq, Dt.bl.injEq, Dt.adr.injEq, Dt.tup.injEq, Dt.lst.injEq, Dt.str.injEq, decide_eq_true_eq, Bool.not_true, Bool.not_false, hS, cs, il, c8', sp_Sender_end, pFn, sg]
      simp [startM, c8, rowsD, rowD, il] at k'
      exact k'
    · have c8' : ¬ (m.data.length : Int) < 8 := by omega
      have sg : ∀ S, g_first [.lst (m.data.map Dt.int)] S = _ := fun S => first_ok (S := S) wf.len
      have k' := k (S1.put a (.ins A.k_Sender [il m.data, .int m.waits, .str "waiting", .adr c, .int 6, .int m.number, oD m.left, .int m.gap, .int (n + 1000)])) ⟨⟨6, by simp [put_same, startM, c8, stop, oD], by simp [startM, c8, stop]⟩, by rw [put_ne ne]; simp [startM, c8, stop]; exact hc, ne, wfs⟩ fun b h1 h2 => by rw [put_ne h1]; exact hf b h1 h2
      simp [sSeq, sIf, sAsg, sRet, sExpr, sNext, sPar, sRaise, sRetN, sDead, ofP, ofB, ofL, pVar, pC, pOp, pUn, pB, pT, pTup, pLst, aNil, aCons, bAnd_eq, bOr_eq, bNot, pIf_eq, pCall, pFn, oLen,  dAt, dFld, dDic, oIsN, oNotN, isN, asB_bl, dI, dI2, gNm, gFld, gTup2, gKey, gIx, tTupE, tLstE, tLstM, tACons, tCallF, tMethF, tMakeF, tBin, tListM, tApp, tDic, tAll, tIfE, tAndB, tOrB, tTst, tB1, tNotB, setF, startD, oList, vAnd_eq, vOr_eq, vNot, dTru, tRng1, oAll, tUnE, tDead, bDead, sFldU, sNmU, pSl, oSome, oNone, oMin, oMax, asI, pCh_eq, cutD_mid, cutD_to, cutD_from, band15, band255, oInt_int,
 dLst_lst, dTup_tup, dLen_lst, dLen_tup, dSeq_lst, dSeq_tup, dSeq_scr, dIx_lst, dIx_tup, at0, at1, at2, at3, at4, at5, at6, at7, dEq_int, dEq_str, dEq_bl, dEq_nn, dEq_ni, dEq_in, dEq_ns, dEq_sn, dEq_is, dEq_si, dNe_int, dNe_str, dNe_ni, dNe_in, dAdd_int,
 isi_bool_non, isi_bool_bl, isi_bool_int, isi_bool_str, isi_bool_lst, isi_bool_tup, isi_bool_dic, isi_int_non, isi_int_bl, isi_int_int, isi_int_str, isi_int_lst, isi_int_tup, isi_int_dic, isi_str_non, isi_str_bl, isi_str_int, isi_str_str, isi_str_lst, isi_str_tup, isi_str_dic, isi_list_non, isi_list_bl, isi_list_int, isi_list_str, isi_list_lst, isi_list_tup, isi_list_dic, isi_tuple_non, isi_tuple_bl, isi_tuple_int, isi_tuple_str, isi_tuple_lst, isi_tuple_tup, isi_tuple_dic, isi_dict_non, isi_dict_bl, isi_dict_int, isi_dict_str, isi_dict_lst, isi_dict_tup, isi_dict_dic,
 List.map_cons, List.map_nil, List.replicate, List.cons_append, List.nil_append, List.append_nil, List.getElem?_cons_zero, List.getElem?_cons_succ, List.getElem?_nil, List.set_cons_zero, List.set_cons_succ, List.set_nil, List.length_cons, List.length_nil, Option.bind_some, Option.bind_none, Option.map_some, Option.map_none, Option.some.injEq, List.cons.injEq, and_true, true_and, and_assoc, exists_eq_left, exists_eq_left', exists_eq_right, exists_eq_right', exists_and_left, exists_const, if_true, if_false, Bool.false_eq_true, reduceCtorEq, put_same, put_put, Dt.int.injEq, Dt.bl.injEq, Dt.adr.injEq, Dt.tup.injEq, Dt.lst.injEq, Dt.str.injEq, decide_eq_true_eq, Bool.not_true, Bool.not_false, hS, cs, il, c8', pFn, sg]
      simp [startM, c8, rowsD, rowD, il] at k'
      exact k'
  · have k := k2 cn cs S1 hA hf
    obtain ⟨⟨p, hS, hp⟩, hc, _, _⟩ := hA
    simp [sSeq, sIf, sAsg, sRet, sExpr, sNext, sPar, sRaise, sRetN, sDead, ofP, ofB, ofL, pVar, pC, pOp, pUn, pB, pT, pTup, pLst, aNil, aCons, bAnd_eq, bOr_eq, bNot, pIf_eq, pCall, pFn, oLen,  dAt, dFld, dDic, oIsN, oNotN, isN, asB_bl, dI, dI2, gNm, gFld, gTup2, gKey, gIx, tTupE, tLstE, tLstM, tACons, tCallF, tMethF, tMakeF, tBin, tListM, tApp, tDic, tAll, tIfE, tAndB, tOrB, tTst, tB1, tNotB, setF, startD, oList, vAnd_eq, vOr_eq, vNot, dTru, tRng1, oAll, tUnE, tDead, bDead, sFldU, sNmU, pSl, oSome, oNone, oMin, oMax, asI, pCh_eq, cutD_mid, cutD_to, cutD_from, band15, band255, oInt_int,
 dLst_lst, dTup_tup, dLen_lst, dLen_tup, dSeq_lst, dSeq_tup, dSeq_scr, dIx_lst, dIx_tup, at0, at1, at2, at3, at4, at5, at6, at7, dEq_int, dEq_str, dEq_bl, dEq_nn, dEq_ni, dEq_in, dEq_ns, dEq_sn, dEq_is, dEq_si, dNe_int, dNe_str, dNe_ni, dNe_in, dAdd_int,
 isi_bool_non, isi_bool_bl, isi_bool_int, isi_bool_str, isi_bool_lst, isi_bool_tup, isi_bool_dic, isi_int_non, isi_int_bl, isi_int_int, isi_int_str, isi_int_lst, isi_int_tup, isi_int_dic, isi_str_non, isi_str_bl, isi_str_int, isi_str_str, isi_str_lst, isi_str_tup, isi_str_dic, isi_list_non, isi_list_bl, isi_list_int, isi_list_str, isi_list_lst, isi_list_tup, isi_list_dic, isi_tuple_non, isi_tuple_bl, isi_tuple_int, isi_tuple_str, isi_tuple_lst, isi_tuple_tup, isi_tuple_dic, isi_dict_non, isi_dict_bl, isi_dict_int, isi_dict_str, isi_dict_lst, isi_dict_tup, isi_dict_dic,
 List.map_cons, List.map_nil, List.replicate, List.cons_append, List.nil_append, List.append_nil, List.getElem?_cons_zero, List.getElem?_cons_succ, List.getElem?_nil, List.set_cons_zero, List.set_cons_succ, List.set_nil, List.length_cons, List.length_nil, Option.bind_some, Option.bind_none, Option.map_some, Option.map_none, Option.some.injEq, List.cons.injEq, and_true, true_and, and_assoc, exists_eq_left, exists_eq_left', exists_eq_right, exists_eq_right', exists_and_left, exists_const, if_true, if_false, Bool.false_eq_true, reduceCtorEq, put_same, put_put, Dt.int.injEq, Dt.bl.injEq, Dt.adr.injEq, Dt.tup.injEq, Dt.lst.injEq, Dt.str.injEq, decide_eq_true_eq, Bool.not_true, Bool.not_false, hS, cs]
    exact k
theorem len__law_sender_begins (A : Ad) : ∀ ds S Φ Ψ, sp__law_sender_begins A ds S Φ Ψ → ds.length = 2 := fun ds S Φ Ψ ⟨_, _, _, e, _⟩ => by rw [e]; rfl
theorem law__law_sender_begins (A : Ad) : ∀ ds S Φ Ψ, sp__law_sender_begins A ds S Φ Ψ → T__law_sender_begins A (LE0 Φ Ψ) (startD 1 ds) S := by
  rintro ds S Φ Ψ ⟨o, m, n, rfl, ⟨hS, wf⟩, cs, cp, cb, k⟩
  have wfs := wf.start (t := n)
  have hlen := wf.len
  by_cases c8 : m.data.length < 8
  · have c8' : (m.data.length : Int) < 8 := by omega
    have sg : ∀ S, dAdd S (.lst [.int m.data.length]) (.lst (m.data.map Dt.int)) = _ := fun S => dAdd_lst (S := S) (by simp; omega)
    have k' := k (S.put o (.dic OK [il m.data, .int m.waits, .str "done", .int 6, .int m.number, oD m.left, .int m.gap, .non, .int n])) ⟨by simp [put_same, startM, c8, stop, oD, cp], wfs⟩ fr_put
    simp [sSeq, sIf, sAsg, sRet, sExpr, sNext, sPar, sRaise, sRetN, sDead, ofP, ofB, ofL, pVar, pC, pOp, pUn, pB, pT, pTup, pLst, aNil, aCons, bAnd_eq, bOr_eq, bNot, pIf_eq, pCall, pFn, oLen,  dAt, dFld, dDic, oIsN, oNotN, isN, asB_bl, dI, dI2, gNm, gFld, gTup2, gKey, gIx, tTupE, tLstE, tLstM, tACons, tCallF, tMethF, tMakeF, tBin, tListM, tApp, tDic, tAll, tIfE, tAndB, tOrB, tTst, tB1, tNotB, setF, startD, oList, vAnd_eq, vOr_eq, vNot, dTru, tRng1, oAll, tUnE, tDead, bDead, sFldU, sNmU, pSl, oSome, oNone, oMin, oMax, asI, pCh_eq, cutD_mid, cutD_to, cutD_from, band15, band255, oInt_int,
 dLst_lst, dTup_tup, dLen_lst, dLen_tup, dSeq_lst, dSeq_tup, dSeq_scr, dIx_lst, dIx_tup, at0, at1, at2, at3, at4, at5, at6, at7, dEq_int, dEq_str, dEq_bl, dEq_nn, dEq_ni, dEq_in, dEq_ns, dEq_sn, dEq_is, dEq_si, dNe_int, dNe_str, dNe_ni, dNe_in, dAdd_int,
 isi_bool_non, isi_bool_bl, isi_bool_int, isi_bool_str, isi_bool_lst, isi_bool_tup, isi_bool_dic, isi_int_non, isi_int_bl, isi_int_int, isi_int_str, isi_int_lst, isi_int_tup, isi_int_dic, isi_str_non, isi_str_bl, isi_str_int, isi_str_str, isi_str_lst, isi_str_tup, isi_str_dic, isi_list_non, isi_list_bl, isi_list_int, isi_list_str, isi_list_lst, isi_list_tup, isi_list_dic, isi_tuple_non, isi_tuple_bl, isi_tuple_int, isi_tuple_str, isi_tuple_lst, isi_tuple_tup, isi_tuple_dic, isi_dict_non, isi_dict_bl, isi_dict_int, isi_dict_str, isi_dict_lst, isi_dict_tup, isi_dict_dic,
 List.map_cons, List.map_nil, List.replicate, List.cons_append, List.nil_append, List.append_nil, List.getElem?_cons_zero, List.getElem?_cons_succ, List.getElem?_nil, List.set_cons_zero, List.set_cons_succ, List.set_nil, List.length_cons, List.length_nil, Option.bind_some, Option.bind_none, Option.map_some, Option.map_none, Option.some.injEq, List.cons.injEq, and_true, true_and, and_assoc, exists_eq_left, exists_eq_left', exists_eq_right, exists_eq_right', exists_and_left, exists_const, if_true, if_false, Bool.false_eq_true, reduceCtorEq, put_same, put_put, Dt.int.injEq, Dt.bl.injEq, Dt.adr.injEq, Dt.tup.injEq, Dt.lst.injEq, Dt.str.injEq, decide_eq_true_eq, Bool.not_true, Bool.not_false, T__law_sender_begins, hS, cs, cb, cp, il, oD, c8', sg]
    simp [startM, c8, rowsD, rowD, il, oD] at k'
    exact k'
  · have c8' : ¬ (m.data.length : Int) < 8 := by omega
    have sg : ∀ S, dAdd S (.lst [.int (16 + (m.data.length : Int) / 256), .int ((m.data.length : Int) % 256)]) (.lst ((m.data.map Dt.int).take 6)) = _ := fun S => dAdd_lst (S := S) (by simp; omega)
    have k' := k (S.put o (.dic OK [il m.data, .int m.waits, .str "waiting", .int 6, .int m.number, oD m.left, .int m.gap, .int (n + 1000), .int n])) ⟨by simp [put_same, startM, c8, stop, oD, cp], wfs⟩ fr_put
    simp [sSeq, sIf, sAsg, sRet, sExpr, sNext, sPar, sRaise, sRetN, sDead, ofP, ofB, ofL, pVar, pC, pOp, pUn, pB, pT, pTup, pLst, aNil, aCons, bAnd_eq, bOr_eq, bNot, pIf_eq, pCall, pFn, oLen,  dAt, dFld, dDic, oIsN, oNotN, isN, asB_bl, dI, dI2, gNm, gFld, gTup2, gKey, gIx, tTupE, tLstE, tLstM, tACons, tCallF, tMethF, tMakeF, tBin, tListM, tApp, tDic, tAll, tIfE, tAndB, tOrB, tTst, tB1, tNotB, setF, startD, oList, vAnd_eq, vOr_eq, vNot, dTru, tRng1, oAll, tUnE, tDead, bDead, sFldU, sNmU, pSl, oSome, oNone, oMin, oMax, asI, pCh_eq, cutD_mid, cutD_to, cutD_from, band15, band255, oInt_int,
 dLst_lst, dTup_tup, dLen_lst, dLen_tup, dSeq_lst, dSeq_tup, dSeq_scr, dIx_lst, dIx_tup, at0, at1, at2, at3, at4, at5, at6, at7, dEq_int, dEq_str, dEq_bl, dEq_nn, dEq_ni, dEq_in, dEq_ns, dEq_sn, dEq_is, dEq_si, dNe_int, dNe_str, dNe_ni, dNe_in, dAdd_int,
 isi_bool_non, isi_bool_bl, isi_bool_int, isi_bool_str, isi_bool_lst, isi_bool_tup, isi_bool_dic, isi_int_non, isi_int_bl, isi_int_int, isi_int_str, isi_int_lst, isi_int_tup, isi_int_dic, isi_str_non, isi_str_bl, isi_str_int, isi_str_str, isi_str_lst, isi_str_tup, isi_str_dic, isi_list_non, isi_list_bl, isi_list_int, isi_list_str, isi_list_lst, isi_list_tup, isi_list_dic, isi_tuple_non, isi_tuple_bl, isi_tuple_int, isi_tuple_str, isi_tuple_lst, isi_tuple_tup, isi_tuple_dic, isi_dict_non, isi_dict_bl, isi_dict_int, isi_dict_str, isi_dict_lst, isi_dict_tup, isi_dict_dic,
 List.map_cons, List.map_nil, List.replicate, List.cons_append, List.nil_append, List.append_nil, List.getElem?_cons_zero, List.getElem?_cons_succ, List.getElem?_nil, List.set_cons_zero, List.set_cons_succ, List.set_nil, List.length_cons, List.length_nil, Option.bind_some, Option.bind_none, Option.map_some, Option.map_none, Option.some.injEq, List.cons.injEq, and_true, true_and, and_assoc, exists_eq_left, exists_eq_left', exists_eq_right, exists_eq_right', exists_and_left, exists_const, if_true, if_false, Bool.false_eq_true, reduceCtorEq, put_same, put_put, Dt.int.injEq, Dt.bl.injEq, Dt.adr.injEq, Dt.tup.injEq, Dt.lst.injEq, Dt.str.injEq, decide_eq_true_eq, Bool.not_true, Bool.not_false, T__law_sender_begins, hS, cs, cb, cp, il, oD, c8', sg]
    simp [startM, c8, rowsD, rowD, il, oD] at k'
    exact k'
theorem len__law_new_sender (A : Ad) : ∀ ds S Φ Ψ, sp__law_new_sender A ds S Φ Ψ → ds.length = 2 := fun ds S Φ Ψ ⟨_, _, e, _⟩ => by rw [e]; rfl
theorem nW : ("new" : Str) ≠ "waiting" := by decide +kernel
theorem nS : ("new" : Str) ≠ "sending" := by decide +kernel
theorem law__law_new_sender (A : Ad) : ∀ ds S Φ Ψ, sp__law_new_sender A ds S Φ Ψ → T__law_new_sender A (LE0 Φ Ψ) (startD 0 ds) S := by
  rintro ds S Φ Ψ ⟨data, w, rfl, hl, k⟩
  simp [sSeq, sIf, sAsg, sRet, sExpr, sNext, sPar, sRaise, sRetN, sDead, ofP, ofB, ofL, pVar, pC, pOp, pUn, pB, pT, pTup, pLst, aNil, aCons, bAnd_eq, bOr_eq, bNot, pIf_eq, pCall, pFn, oLen,  dAt, dFld, dDic, oIsN, oNotN, isN, asB_bl, dI, dI2, gNm, gFld, gTup2, gKey, gIx, tTupE, tLstE, tLstM, tACons, tCallF, tMethF, tMakeF, tBin, tListM, tApp, tDic, tAll, tIfE, tAndB, tOrB, tTst, tB1, tNotB, setF, startD, oList, vAnd_eq, vOr_eq, vNot, dTru, tRng1, oAll, tUnE, tDead, bDead, sFldU, sNmU, pSl, oSome, oNone, oMin, oMax, asI, pCh_eq, cutD_mid, cutD_to, cutD_from, band15, band255, oInt_int,
 dLst_lst, dTup_tup, dLen_lst, dLen_tup, dSeq_lst, dSeq_tup, dSeq_scr, dIx_lst, dIx_tup, at0, at1, at2, at3, at4, at5, at6, at7, dEq_int, dEq_str, dEq_bl, dEq_nn, dEq_ni, dEq_in, dEq_ns, dEq_sn, dEq_is, dEq_si, dNe_int, dNe_str, dNe_ni, dNe_in, dAdd_int,
 isi_bool_non, isi_bool_bl, isi_bool_int, isi_bool_str, isi_bool_lst, isi_bool_tup, isi_bool_dic, isi_int_non, isi_int_bl, isi_int_int, isi_int_str, isi_int_lst, isi_int_tup, isi_int_dic, isi_str_non, isi_str_bl, isi_str_int, isi_str_str, isi_str_lst, isi_str_tup, isi_str_dic, isi_list_non, isi_list_bl, isi_list_int, isi_list_str, isi_list_lst, isi_list_tup, isi_list_dic, isi_tuple_non, isi_tuple_bl, isi_tuple_int, isi_tuple_str, isi_tuple_lst, isi_tuple_tup, isi_tuple_dic, isi_dict_non, isi_dict_bl, isi_dict_int, isi_dict_str, isi_dict_lst, isi_dict_tup, isi_dict_dic,
 List.map_cons, List.map_nil, List.replicate, List.cons_append, List.nil_append, List.append_nil, List.getElem?_cons_zero, List.getElem?_cons_succ, List.getElem?_nil, List.set_cons_zero, List.set_cons_succ, List.set_nil, List.length_cons, List.length_nil, Option.bind_some, Option.bind_none, Option.map_some, Option.map_none, Option.some.injEq, List.cons.injEq, and_true, true_and, and_assoc, exists_eq_left, exists_eq_left', exists_eq_right, exists_eq_right', exists_and_left, exists_const, if_true, if_false, Bool.false_eq_true, reduceCtorEq, put_same, put_put, Dt.int.injEq, Dt.bl.injEq, Dt.adr.injEq, Dt.tup.injEq, Dt.lst.injEq, Dt.str.injEq, decide_eq_true_eq, Bool.not_true, Bool.not_false, T__law_new_sender]
  exact fun p hp => k p _ hp ⟨put_same, ⟨hl, fun _ => ⟨nW, nS⟩⟩⟩ fr_put
end K47
set_option maxRecDepth 100000
set_option maxHeartbeats 4000000
namespace K47
open PySem PySem.Spec PyProof.Rows L2 Ax
theorem tW : ("tired" : Str) ≠ "waiting" := by decide +kernel
theorem tS : ("tired" : Str) ≠ "sending" := by decide +kernel
theorem rW : ("refused" : Str) ≠ "waiting" := by decide +kernel
theorem rS : ("refused" : Str) ≠ "sending" := by decide +kernel
theorem wW : ("wrong" : Str) ≠ "waiting" := by decide +kernel
theorem wS : ("wrong" : Str) ≠ "sending" := by decide +kernel
theorem onM_now : ∀ {k : Nat} {t : Int} {m : M} {f : List (Int × List Int)} {r : M × List (Int × List Int)}, onM k t m f = some r → r.1.now = m.now ∧ (Live m → Live r.1) ∧ f.length ≤ r.2.length ∧ r.2.length ≤ f.length + k ∧ (WF m → WF r.1)
  | 0, _, _, _, _, h => by simp [onM] at h
  | k + 1, t, m, f, r, h => by
    rw [onM] at h
    split at h
    · cases h
      exact ⟨rfl, id, Nat.le_refl _, Nat.le_add_right _ _, id⟩
    · rename_i b hb
      split at h
      · split at h
        · obtain ⟨h1, h2, h3, h4, h5⟩ := onM_now h
          exact ⟨h1, fun _ => h2 (.inl rfl), h3, by omega, fun w => h5 (w.stop lW lS)⟩
        · rename_i hw
          obtain ⟨h1, h2, h3, h4, h5⟩ := onM_now h
          rw [List.length_append, send_one] at h3 h4
          refine ⟨h1.trans ?_, fun lv => h2 (lv.send (live_of lv hb hw)), by omega, by omega, fun w => h5 w.send⟩
          unfold sendM
          simp only
          split
          · rfl
          · split <;> rfl
      · cases h
        exact ⟨rfl, id, Nat.le_refl _, Nat.le_add_right _ _, id⟩
theorem goM_ok {m : M} {t : Int} {r : M × List (Int × List Int)} (h : goM m t = some r) (lv : Live m) : r.1.now = t ∧ Live r.1 ∧ r.2.length ≤ 400 := by
  obtain ⟨h1, h2, h3, h4, h5⟩ := onM_now h
  exact ⟨h1, h2 lv, by simpa using h4⟩
theorem told_flow {oct : List Int} {d : Dt} (h : toldM oct = some d) : (flow oct = none ∧ oct.length ≤ 8 → d = .non ∨ ∃ w r, d = .tup (.str w :: r) ∧ w ≠ "flow") ∧ ∀ w a b, flow oct = some (w, a, b) → d = .tup [.str "flow", .int w, .int a, .int b] := by
  have n1 : ("next" : Str) ≠ "flow" := by decide +kernel
  have n2 : ("single" : Str) ≠ "flow" := by decide +kernel
  cases oct with
  | nil =>
    cases h
    exact ⟨fun _ => .inl rfl, fun w a b z => by simp [flow] at z⟩
  | cons x r =>
    by_cases c3 : x / 16 = 3
    · simp only [toldM, c3, if_true] at h
      rcases r with _ | ⟨a, _ | ⟨b, r⟩⟩
      · cases h
        exact ⟨fun _ => .inl rfl, fun w a b z => by simp [flow] at z⟩
      · cases h
        exact ⟨fun _ => .inl rfl, fun w a b z => by simp [flow] at z⟩
      · cases h
        refine ⟨fun z => ?_, fun w a' b' z => ?_⟩
        · obtain ⟨z1, z2⟩ := z
          have : r.length ≤ 5 := by simp at z2; omega
          simp [flow, c3, this] at z1
        · simp [flow, c3] at z
          obtain ⟨_, rfl, rfl, rfl⟩ := z
          rfl
    · have hf : flow (x :: r) = none := by
        rcases r with _ | ⟨a, _ | ⟨b, r⟩⟩
        · rfl
        · rfl
        · simp [flow, c3]
      refine ⟨fun _ => ?_, fun w a b z => by rw [hf] at z; cases z⟩
      simp only [toldM, c3, if_false] at h
      split at h
      · cases h
        exact .inr ⟨_, _, rfl, n1⟩
      · split at h
        · cases h
          exact .inr ⟨_, _, rfl, n2⟩
        · cases h
theorem told_run {S : Sto} {oct : List Int} {d : Dt} (h : toldM oct = some d) (h1 : octs oct = true) (h2 : oct.length ≤ 8) : g_told_by [.lst (oct.map Dt.int)] S = some d := by
  simp [g_told_by, intsOf_map, h1, h2, h]
theorem len_Sender_get (A : Ad) : ∀ ds S Φ Ψ, sp_Sender_get A ds S Φ Ψ → ds.length = 3 := fun ds S Φ Ψ ⟨_, _, _, _, _, e, _⟩ => by rw [e]; rfl
theorem law_Sender_get (A : Ad) : ∀ ds S Φ Ψ, sp_Sender_get A ds S Φ Ψ → T_Sender_get A (LE0 Φ Ψ) (startD 2 ds) S := by
  rintro ds S Φ Ψ ⟨a, c, m, oct, n, rfl, hA, lv, k1, ho, hol, ⟨td, htd⟩, k2⟩
  unfold T_Sender_get
  obtain ⟨p, hS, hp⟩ := hA.1
  by_cases cn : n < m.now
  · simp [sSeq, sIf, sAsg, sRet, sExpr, sNext, sPar, sRaise, sRetN, sDead, ofP, ofB, ofL, pVar, pC, pOp, pUn, pB, pT, pTup, pLst, aNil, aCons, bAnd_eq, bOr_eq, bNot, pIf_eq, pCall, pFn, oLen,  dAt, dFld, dDic, oIsN, oNotN, isN, asB_bl, dI, dI2, gNm, gFld, gTup2, gKey, gIx, tTupE, tLstE, tLstM, tACons, tCallF, tMethF, tMakeF, tBin, tListM, tApp, tDic, tAll, tIfE, tAndB, tOrB, tTst, tB1, tNotB, setF, startD, oList, vAnd_eq, vOr_eq, vNot, dTru, tRng1, oAll, tUnE, tDead, bDead, sFldU, sNmU, pSl, oSome, oNone, oMin, oMax, asI, pCh_eq, cutD_mid, cutD_to, cutD_from, band15, band255, oInt_int,
 dLst_lst, dTup_tup, dLen_lst, dLen_tup, dSeq_lst, dSeq_tup, dSeq_scr, dIx_lst, dIx_tup, at0, at1, at2, at3, at4, at5, at6, at7, dEq_int, dEq_str, dEq_bl, dEq_nn, dEq_ni, dEq_in, dEq_ns, dEq_sn, dEq_is, dEq_si, dNe_int, dNe_str, dNe_ni, dNe_in, dAdd_int,
 isi_bool_non, isi_bool_bl, isi_bool_int, isi_bool_str, isi_bool_lst, isi_bool_tup, isi_bool_dic, isi_int_non, isi_int_bl, isi_int_int, isi_int_str, isi_int_lst, isi_int_tup, isi_int_dic, isi_str_non, isi_str_bl, isi_str_int, isi_str_str, isi_str_lst, isi_str_tup, isi_str_dic, isi_list_non, isi_list_bl, isi_list_int, isi_list_str, isi_list_lst, isi_list_tup, isi_list_dic, isi_tuple_non, isi_tuple_bl, isi_tuple_int, isi_tuple_str, isi_tuple_lst, isi_tuple_tup, isi_tuple_dic, isi_dict_non, isi_dict_bl, isi_dict_int, isi_dict_str, isi_dict_lst, isi_dict_tup, isi_dict_dic,
 List.map_cons, List.map_nil, List.replicate, List.cons_append, List.nil_append, List.append_nil, List.getElem?_cons_zero, List.getElem?_cons_succ, List.getElem?_nil, List.set_cons_zero, List.set_cons_succ, List.set_nil, List.length_cons, List.length_nil, Option.bind_some, Option.bind_none, Option.map_some, Option.map_none, Option.some.injEq, List.cons.injEq, and_true, true_and, and_assoc, exists_eq_left, exists_eq_left', exists_eq_right, exists_eq_right', exists_and_left, exists_const, if_true, if_false, Bool.false_eq_true, reduceCtorEq, put_same, put_put, Dt.int.injEq, Dt.bl.injEq, Dt.adr.injEq, Dt.tup.injEq, Dt.lst.injEq, Dt.str.injEq, decide_eq_true_eq, Bool.not_true, Bool.not_false, hS]
    exact ⟨a, c, m, n, rfl, hA, lv, k1, fun z => absurd cn z⟩
  obtain ⟨r, hr, k⟩ := k2 cn
  unfold getM at hr
  cases hg : goM m n with
  | none =>
    rw [hg] at hr
    cases hr
  | some r1 =>
  rw [hg, Option.bind_some] at hr
  obtain ⟨g1, g2, g3⟩ := goM_ok hg lv
  refine seqI (fun ds' S' => ds' = [some (.adr a), some (il oct), some (.int n), some (rowsD r1.2), none] ∧ SAt A S' a c r1.1 ∧ Fr2 S S' a c) ?_ ?_
  case refine_2 =>
    intro Q hQ
    simp [sSeq, sIf, sAsg, sRet, sExpr, sNext, sPar, sRaise, sRetN, sDead, ofP, ofB, ofL, pVar, pC, pOp, pUn, pB, pT, pTup, pLst, aNil, aCons, bAnd_eq, bOr_eq, bNot, pIf_eq, pCall, pFn, oLen,  dAt, dFld, dDic, oIsN, oNotN, isN, asB_bl, dI, dI2, gNm, gFld, gTup2, gKey, gIx, tTupE, tLstE, tLstM, tACons, tCallF, tMethF, tMakeF, tBin, tListM, tApp, tDic, tAll, tIfE, tAndB, tOrB, tTst, tB1, tNotB, setF, startD, oList, vAnd_eq, vOr_eq, vNot, dTru, tRng1, oAll, tUnE, tDead, bDead, sFldU, sNmU, pSl, oSome, oNone, oMin, oMax, asI, pCh_eq, cutD_mid, cutD_to, cutD_from, band15, band255, oInt_int,
 dLst_lst, dTup_tup, dLen_lst, dLen_tup, dSeq_lst, dSeq_tup, dSeq_scr, dIx_lst, dIx_tup, at0, at1, at2, at3, at4, at5, at6, at7, dEq_int, dEq_str, dEq_bl, dEq_nn, dEq_ni, dEq_in, dEq_ns, dEq_sn, dEq_is, dEq_si, dNe_int, dNe_str, dNe_ni, dNe_in, dAdd_int,
 isi_bool_non, isi_bool_bl, isi_bool_int, isi_bool_str, isi_bool_lst, isi_bool_tup, isi_bool_dic, isi_int_non, isi_int_bl, isi_int_int, isi_int_str, isi_int_lst, isi_int_tup, isi_int_dic, isi_str_non, isi_str_bl, isi_str_int, isi_str_str, isi_str_lst, isi_str_tup, isi_str_dic, isi_list_non, isi_list_bl, isi_list_int, isi_list_str, isi_list_lst, isi_list_tup, isi_list_dic, isi_tuple_non, isi_tuple_bl, isi_tuple_int, isi_tuple_str, isi_tuple_lst, isi_tuple_tup, isi_tuple_dic, isi_dict_non, isi_dict_bl, isi_dict_int, isi_dict_str, isi_dict_lst, isi_dict_tup, isi_dict_dic,
 List.map_cons, List.map_nil, List.replicate, List.cons_append, List.nil_append, List.append_nil, List.getElem?_cons_zero, List.getElem?_cons_succ, List.getElem?_nil, List.set_cons_zero, List.set_cons_succ, List.set_nil, List.length_cons, List.length_nil, Option.bind_some, Option.bind_none, Option.map_some, Option.map_none, Option.some.injEq, List.cons.injEq, and_true, true_and, and_assoc, exists_eq_left, exists_eq_left', exists_eq_right, exists_eq_right', exists_and_left, exists_const, if_true, if_false, Bool.false_eq_true, reduceCtorEq, put_same, put_put, Dt.int.injEq, Dt.bl.injEq, Dt.adr.injEq, Dt.tup.injEq, Dt.lst.injEq, Dt.str.injEq, decide_eq_true_eq, Bool.not_true, Bool.not_false, hS]
    exact ⟨a, c, m, n, rfl, hA, lv, k1, fun _ => ⟨r1, hg, fun S' h1 h2 => hQ _ _ ⟨rfl, h1, h2⟩⟩⟩
  rintro _ S1 ⟨rfl, hA1, hf1⟩
  clear hS hp p hA
  refine seqI (fun ds' S' => ds' = [some (.adr a), some (il oct), some (.int n), some (rowsD r1.2), some td] ∧ S1 = S') ?_ ?_
  case refine_2 =>
    intro Q hQ
    simp [sSeq, sIf, sAsg, sRet, sExpr, sNext, sPar, sRaise, sRetN, sDead, ofP, ofB, ofL, pVar, pC, pOp, pUn, pB, pT, pTup, pLst, aNil, aCons, bAnd_eq, bOr_eq, bNot, pIf_eq, pCall, pFn, oLen,  dAt, dFld, dDic, oIsN, oNotN, isN, asB_bl, dI, dI2, gNm, gFld, gTup2, gKey, gIx, tTupE, tLstE, tLstM, tACons, tCallF, tMethF, tMakeF, tBin, tListM, tApp, tDic, tAll, tIfE, tAndB, tOrB, tTst, tB1, tNotB, setF, startD, oList, vAnd_eq, vOr_eq, vNot, dTru, tRng1, oAll, tUnE, tDead, bDead, sFldU, sNmU, pSl, oSome, oNone, oMin, oMax, asI, pCh_eq, cutD_mid, cutD_to, cutD_from, band15, band255, oInt_int,
 dLst_lst, dTup_tup, dLen_lst, dLen_tup, dSeq_lst, dSeq_tup, dSeq_scr, dIx_lst, dIx_tup, at0, at1, at2, at3, at4, at5, at6, at7, dEq_int, dEq_str, dEq_bl, dEq_nn, dEq_ni, dEq_in, dEq_ns, dEq_sn, dEq_is, dEq_si, dNe_int, dNe_str, dNe_ni, dNe_in, dAdd_int,
 isi_bool_non, isi_bool_bl, isi_bool_int, isi_bool_str, isi_bool_lst, isi_bool_tup, isi_bool_dic, isi_int_non, isi_int_bl, isi_int_int, isi_int_str, isi_int_lst, isi_int_tup, isi_int_dic, isi_str_non, isi_str_bl, isi_str_int, isi_str_str, isi_str_lst, isi_str_tup, isi_str_dic, isi_list_non, isi_list_bl, isi_list_int, isi_list_str, isi_list_lst, isi_list_tup, isi_list_dic, isi_tuple_non, isi_tuple_bl, isi_tuple_int, isi_tuple_str, isi_tuple_lst, isi_tuple_tup, isi_tuple_dic, isi_dict_non, isi_dict_bl, isi_dict_int, isi_dict_str, isi_dict_lst, isi_dict_tup, isi_dict_dic,
 List.map_cons, List.map_nil, List.replicate, List.cons_append, List.nil_append, List.append_nil, List.getElem?_cons_zero, List.getElem?_cons_succ, List.getElem?_nil, List.set_cons_zero, List.set_cons_succ, List.set_nil, List.length_cons, List.length_nil, Option.bind_some, Option.bind_none, Option.map_some, Option.map_none, Option.some.injEq, List.cons.injEq, and_true, true_and, and_assoc, exists_eq_left, exists_eq_left', exists_eq_right, exists_eq_right', exists_and_left, exists_const, if_true, if_false, Bool.false_eq_true, reduceCtorEq, put_same, put_put, Dt.int.injEq, Dt.bl.injEq, Dt.adr.injEq, Dt.tup.injEq, Dt.lst.injEq, Dt.str.injEq, decide_eq_true_eq, Bool.not_true, Bool.not_false, il, told_run htd ho hol, pFn]
    exact hQ _ _ ⟨rfl, rfl⟩
  rintro _ _ ⟨rfl, rfl⟩
  obtain ⟨tf1, tf2⟩ := told_flow htd
  obtain ⟨m1, f1⟩ := r1
  obtain ⟨⟨p, hS, hp⟩, hc, ne, wf⟩ := id hA1
  simp only at hr g1 g2 g3 hS hp hc wf
  by_cases cw : m1.state = "waiting"
  · simp only [hearM, cw, ne_eq, not_true, if_false] at hr
    cases hfl : flow oct with
    | none =>
      rw [hfl] at hr
      cases hr
      have kk := k _ hA1 hf1
      rcases tf1 ⟨hfl, hol⟩ with rfl | ⟨w, rr, rfl, hw⟩
      · simp [sSeq, sIf, sAsg, sRet, sExpr, sNext, sPar, sRaise, sRetN, sDead, ofP, ofB, ofL, pVar, pC, pOp, pUn, pB, pT, pTup, pLst, aNil, aCons, bAnd_eq, bOr_eq, bNot, pIf_eq, pCall, pFn, oLen,  dAt, dFld, dDic, oIsN, oNotN, isN, asB_bl, dI, dI2, gNm, gFld, gTup2, gKey, gIx, tTupE, tLstE, tLstM, tACons, tCallF, tMethF, tMakeF, tBin, tListM, tApp, tDic, tAll, tIfE, tAndB, tOrB, tTst, tB1, tNotB, setF, startD, oList, vAnd_eq, vOr_eq, vNot, dTru, tRng1, oAll, tUnE, tDead, bDead, sFldU, sNmU, pSl, oSome, oNone, oMin, oMax, asI, pCh_eq, cutD_mid, cutD_to, cutD_from, band15, band255, oInt_int,
 dLst_lst, dTup_tup, dLen_lst, dLen_tup, dSeq_lst, dSeq_tup, dSeq_scr, dIx_lst, dIx_tup, at0, at1, at2, at3, at4, at5, at6, at7, dEq_int, dEq_str, dEq_bl, dEq_nn, dEq_ni, dEq_in, dEq_ns, dEq_sn, dEq_is, dEq_si, dNe_int, dNe_str, dNe_ni, dNe_in, dAdd_int,
 isi_bool_non, isi_bool_bl, isi_bool_int, isi_bool_str, isi_bool_lst, isi_bool_tup, isi_bool_dic, isi_int_non, isi_int_bl, isi_int_int, isi_int_str, isi_int_lst, isi_int_tup, isi_int_dic, isi_str_non, isi_str_bl, isi_str_int, isi_str_str, isi_str_lst, isi_str_tup, isi_str_dic, isi_list_non, isi_list_bl, isi_list_int, isi_list_str, isi_list_lst, isi_list_tup, isi_list_dic, isi_tuple_non, isi_tuple_bl, isi_tuple_int, isi_tuple_str, isi_tuple_lst, isi_tuple_tup, isi_tuple_dic, isi_dict_non, isi_dict_bl, isi_dict_int, isi_dict_str, isi_dict_lst, isi_dict_tup, isi_dict_dic,
 List.map_cons, List.map_nil, List.replicate, List.cons_append, List.nil_append, List.append_nil, List.getElem?_cons_zero, List.getElem?_cons_succ, List.getElem?_nil, List.set_cons_zero, List.set_cons_succ, List.set_nil, List.length_cons, List.length_nil, Option.bind_some, Option.bind_none, Option.map_some, Option.map_none, Option.some.injEq, List.cons.injEq, and_true, true_and, and_assoc, exists_eq_left, exists_eq_left', exists_eq_right, exists_eq_right', exists_and_left, exists_const, if_true, if_false, Bool.false_eq_true, reduceCtorEq, put_same, put_put, Dt.int.injEq, Dt.bl.injEq, Dt.adr.injEq, Dt.tup.injEq, Dt.lst.injEq, Dt.str.injEq, decide_eq_true_eq, Bool.not_true, Bool.not_false, hS, cw]
        exact kk
      · simp [sSeq, sIf, sAsg, sRet, sExpr, sNext, sPar, sRaise, sRetN, sDead, ofP, ofB, ofL, pVar, pC, pOp, pUn, pB, pT, pTup, pLst, aNil, aCons, bAnd_eq, bOr_eq, bNot, pIf_eq, pCall, pFn, oLen,  dAt, dFld, dDic, oIsN, oNotN, isN, asB_bl, dI, dI2, gNm, gFld, gTup2, gKey, gIx, tTupE, tLstE, tLstM, tACons, tCallF, tMethF, tMakeF, tBin, tListM, tApp, tDic, tAll, tIfE, tAndB, tOrB, tTst, tB1, tNotB, setF, startD, oList, vAnd_eq, vOr_eq, vNot, dTru, tRng1, oAll, tUnE, tDead, bDead, sFldU, sNmU, pSl, oSome, oNone, oMin, oMax, asI, pCh_eq, cutD_mid, cutD_to, cutD_from, band15, band255, oInt_int,
 dLst_lst, dTup_tup, dLen_lst, dLen_tup, dSeq_lst, dSeq_tup, dSeq_scr, dIx_lst, dIx_tup, at0, at1, at2, at3, at4, at5, at6, at7, dEq_int, dEq_str, dEq_bl, dEq_nn, dEq_ni, dEq_in, dEq_ns, dEq_sn, dEq_is, dEq_si, dNe_int, dNe_str, dNe_ni, dNe_in, dAdd_int,
 isi_bool_non, isi_bool_bl, isi_bool_int, isi_bool_str, isi_bool_lst, isi_bool_tup, isi_bool_dic, isi_int_non, isi_int_bl, isi_int_int, isi_int_str, isi_int_lst, isi_int_tup, isi_int_dic, isi_str_non, isi_str_bl, isi_str_int, isi_str_str, isi_str_lst, isi_str_tup, isi_str_dic, isi_list_non, isi_list_bl, isi_list_int, isi_list_str, isi_list_lst, isi_list_tup, isi_list_dic, isi_tuple_non, isi_tuple_bl, isi_tuple_int, isi_tuple_str, isi_tuple_lst, isi_tuple_tup, isi_tuple_dic, isi_dict_non, isi_dict_bl, isi_dict_int, isi_dict_str, isi_dict_lst, isi_dict_tup, isi_dict_dic,
 List.map_cons, List.map_nil, List.replicate, List.cons_append, List.nil_append, List.append_nil, List.getElem?_cons_zero, List.getElem?_cons_succ, List.getElem?_nil, List.set_cons_zero, List.set_cons_succ, List.set_nil, List.length_cons, List.length_nil, Option.bind_some, Option.bind_none, Option.map_some, Option.map_none, Option.some.injEq, List.cons.injEq, and_true, true_and, and_assoc, exists_eq_left, exists_eq_left', exists_eq_right, exists_eq_right', exists_and_left, exists_const, if_true, if_false, Bool.false_eq_true, reduceCtorEq, put_same, put_put, Dt.int.injEq, Dt.bl.injEq, Dt.adr.injEq, Dt.tup.injEq, Dt.lst.injEq, Dt.str.injEq, decide_eq_true_eq, Bool.not_true, Bool.not_false, hS, cw, hw]
        exact kk
    | some wab =>
      obtain ⟨w, x, y⟩ := wab
      rw [hfl] at hr
      simp only at hr
      have e := tf2 w x y hfl
      subst e
      have hb : m1.bell ≠ none := fun z => (wf.sw z).1 cw
      have hp : p = m1.pos := by
        rcases hp with h | h
        · exact absurd h hb
        · exact h
      subst hp
      by_cases c1 : w = 1
      · subst c1
        simp only [if_true] at hr
        cases hr
        by_cases cz : m1.waits - 1 < 0
        · have kk := k (S1.put a (.ins A.k_Sender [il m1.data, .int (m1.waits - 1), .str "tired", .adr c, .int m1.pos, .int m1.number, oD m1.left, .int m1.gap, .non])) (by
            simp only [cz, if_true]
            exact ⟨⟨_, put_same, .inl rfl⟩, by rw [put_ne ne]; exact hc, ne, (⟨wf.len, fun _ => ⟨tW, tS⟩⟩)⟩) fun b h1 h2 => by rw [put_ne h1]; exact hf1 b h1 h2
          simp [sSeq, sIf, sAsg, sRet, sExpr, sNext, sPar, sRaise, sRetN, sDead, ofP, ofB, ofL, pVar, pC, pOp, pUn, pB, pT, pTup, pLst, aNil, aCons, bAnd_eq, bOr_eq, bNot, pIf_eq, pCall, pFn, oLen,  dAt, dFld, dDic, oIsN, oNotN, isN, asB_bl, dI, dI2, gNm, gFld, gTup2, gKey, gIx, tTupE, tLstE, tLstM, tACons, tCallF, tMethF, tMakeF, tBin, tListM, tApp, tDic, tAll, tIfE, tAndB, tOrB, tTst, tB1, tNotB, setF, startD, oList, vAnd_eq, vOr_eq, vNot, dTru, tRng1, oAll, tUnE, tDead, bDead, sFldU, sNmU, pSl, oSome, oNone, oMin, oMax, asI, pCh_eq, cutD_mid, cutD_to, cutD_from, band15, band255, oInt_int,
 dLst_lst, dTup_tup, dLen_lst, dLen_tup, dSeq_lst, dSeq_tup, dSeq_scr, dIx_lst, dIx_tup, at0, at1, at2, at3, at4, at5, at6, at7, dEq_int, dEq_str, dEq_bl, dEq_nn, dEq_ni, dEq_in, dEq_ns, dEq_sn, dEq_is, dEq_si, dNe_int, dNe_str, dNe_ni, dNe_in, dAdd_int,
 isi_bool_non, isi_bool_bl, isi_bool_int, isi_bool_str, isi_bool_lst, isi_bool_tup, isi_bool_dic, isi_int_non, isi_int_bl, isi_int_int, isi_int_str, isi_int_lst, isi_int_tup, isi_int_dic, isi_str_non, isi_str_bl, isi_str_int, isi_str_str, isi_str_lst, isi_str_tup, isi_str_dic, isi_list_non, isi_list_bl, isi_list_int, isi_list_str, isi_list_lst, isi_list_tup, isi_list_dic, isi_tuple_non, isi_tuple_bl, isi_tuple_int, isi_tuple_str, isi_tuple_lst, isi_tuple_tup, isi_tuple_dic, isi_dict_non, isi_dict_bl, isi_dict_int, isi_dict_str, isi_dict_lst, isi_dict_tup, isi_dict_dic,
 List.map_cons, List.map_nil, List.replicate, List.cons_append, List.nil_append, List.append_nil, List.getElem?_cons_zero, List.getElem?_cons_succ, List.getElem?_nil, List.set_cons_zero, List.set_cons_succ, List.set_nil, List.length_cons, List.length_nil, Option.bind_some, Option.bind_none, Option.map_some, Option.map_none, Option.some.injEq, List.cons.injEq, and_true, true_and, and_assoc, exists_eq_left, exists_eq_left', exists_eq_right, exists_eq_right', exists_and_left, exists_const, if_true, if_false, Bool.false_eq_true, reduceCtorEq, put_same, put_put, Dt.int.injEq, Dt.bl.injEq, Dt.adr.injEq, Dt.tup.injEq, Dt.lst.injEq, Dt.str.injEq, decide_eq_true_eq, Bool.not_true, Bool.not_false, hS, cw, cz, sp_Sender_end]
          exact kk
        · have kk := k (S1.put a (.ins A.k_Sender [il m1.data, .int (m1.waits - 1), .str "waiting", .adr c, .int m1.pos, .int m1.number, oD m1.left, .int m1.gap, .int (n + 1000)])) (by
            simp only [cz, if_false]
            exact ⟨⟨_, put_same, .inr rfl⟩, by rw [put_ne ne]; exact hc, ne, (⟨wf.len, fun z => by simp at z⟩)⟩) fun b h1 h2 => by rw [put_ne h1]; exact hf1 b h1 h2
          simp [sSeq, sIf, sAsg, sRet, sExpr, sNext, sPar, sRaise, sRetN, sDead, ofP, ofB, ofL, pVar, pC, pOp, pUn, pB, pT, pTup, pLst, aNil, aCons, bAnd_eq, bOr_eq, bNot, pIf_eq, pCall, pFn, oLen,  dAt, dFld, dDic, oIsN, oNotN, isN, asB_bl, dI, dI2, gNm, gFld, gTup2, gKey, gIx, tTupE, tLstE, tLstM, tACons, tCallF, tMethF, tMakeF, tBin, tListM, tApp, tDic, tAll, tIfE, tAndB, tOrB, tTst, tB1, tNotB, setF, startD, oList, vAnd_eq, vOr_eq, vNot, dTru, tRng1, oAll, tUnE, tDead, bDead, sFldU, sNmU, pSl, oSome, oNone, oMin, oMax, asI, pCh_eq, cutD_mid, cutD_to, cutD_from, band15, band255, oInt_int,
 dLst_lst, dTup_tup, dLen_lst, dLen_tup, dSeq_lst, dSeq_tup, dSeq_scr, dIx_lst, dIx_tup, at0, at1, at2, at3, at4, at5, at6, at7, dEq_int, dEq_str, dEq_bl, dEq_nn, dEq_ni, dEq_in, dEq_ns, dEq_sn, dEq_is, dEq_si, dNe_int, dNe_str, dNe_ni, dNe_in, dAdd_int,
 isi_bool_non, isi_bool_bl, isi_bool_int, isi_bool_str, isi_bool_lst, isi_bool_tup, isi_bool_dic, isi_int_non, isi_int_bl, isi_int_int, isi_int_str, isi_int_lst, isi_int_tup, isi_int_dic, isi_str_non, isi_str_bl, isi_str_int, isi_str_str, isi_str_lst, isi_str_tup, isi_str_dic, isi_list_non, isi_list_bl, isi_list_int, isi_list_str, isi_list_lst, isi_list_tup, isi_list_dic, isi_tuple_non, isi_tuple_bl, isi_tuple_int, isi_tuple_str, isi_tuple_lst, isi_tuple_tup, isi_tuple_dic, isi_dict_non, isi_dict_bl, isi_dict_int, isi_dict_str, isi_dict_lst, isi_dict_tup, isi_dict_dic,
 List.map_cons, List.map_nil, List.replicate, List.cons_append, List.nil_append, List.append_nil, List.getElem?_cons_zero, List.getElem?_cons_succ, List.getElem?_nil, List.set_cons_zero, List.set_cons_succ, List.set_nil, List.length_cons, List.length_nil, Option.bind_some, Option.bind_none, Option.map_some, Option.map_none, Option.some.injEq, List.cons.injEq, and_true, true_and, and_assoc, exists_eq_left, exists_eq_left', exists_eq_right, exists_eq_right', exists_and_left, exists_const, if_true, if_false, Bool.false_eq_true, reduceCtorEq, put_same, put_put, Dt.int.injEq, Dt.bl.injEq, Dt.adr.injEq, Dt.tup.injEq, Dt.lst.injEq, Dt.str.injEq, decide_eq_true_eq, Bool.not_true, Bool.not_false, hS, cw, cz, sp_Sender_end]
          exact kk
      · by_cases c0 : w = 0
        · subst c0
          simp only [c1, if_false, ne_eq, not_true] at hr
          cases hg2 : goM { m1 with state := "sending", left := if x > 0 then some x else none, gap := clip y, bell := some n } n with
          | none =>
            rw [hg2] at hr
            cases hr
          | some r2 =>
          rw [hg2] at hr
          cases hr
          obtain ⟨q1, q2, q3⟩ := goM_ok hg2 (.inr (.inr rfl))
          have hB : SAt A (S1.put a (.ins A.k_Sender [il m1.data, .int m1.waits, .str "sending", .adr c, .int m1.pos, .int m1.number, oD (if x > 0 then some x else none), .int (clip y), .int n])) a c { m1 with state := "sending", left := if x > 0 then some x else none, gap := clip y, bell := some n } :=
            ⟨⟨_, put_same, .inr rfl⟩, by rw [put_ne ne]; exact hc, ne, ⟨wf.len, fun z => by simp at z⟩⟩
          have fin : ∀ S2 S', SAt A S' a c r2.1 → Fr2 (S1.put a S2) S' a c → Φ (rowsD (f1 ++ r2.2)) S' := fun S2 S' h1 h2 => k _ h1 fun b h3 h4 => (h2 b h3 h4).trans (by rw [put_ne h3]; exact hf1 b h3 h4)
          have ra : ∀ S, dAdd S (rowsD f1) (rowsD r2.2) = _ := fun S => rows_add (S := S) (by omega)
          by_cases cx : 0 < x
          · simp only [gt_iff_lt, cx, if_true, oD] at hB fin hg2
            simp [sSeq, sIf, sAsg, sRet, sExpr, sNext, sPar, sRaise, sRetN, sDead, ofP, ofB, ofL, pVar, pC, pOp, pUn, pB, pT, pTup, pLst, aNil, aCons, bAnd_eq, bOr_eq, bNot, pIf_eq, pCall, pFn, oLen,  dAt, dFld, dDic, oIsN, oNotN, isN, asB_bl, dI, dI2, gNm, gFld, gTup2, gKey, gIx, tTupE, tLstE, tLstM, tACons, tCallF, tMethF, tMakeF, tBin, tListM, tApp, tDic, tAll, tIfE, tAndB, tOrB, tTst, tB1, tNotB, setF, startD, oList, vAnd_eq, vOr_eq, vNot, dTru, tRng1, oAll, tUnE, tDead, bDead, sFldU, sNmU, pSl, oSome, oNone, oMin, oMax, asI, pCh_eq, cutD_mid, cutD_to, cutD_from, band15, band255, oInt_int,
 dLst_lst, dTup_tup, dLen_lst, dLen_tup, dSeq_lst, dSeq_tup, dSeq_scr, dIx_lst, dIx_tup, at0, at1, at2, at3, at4, at5, at6, at7, dEq_int, dEq_str, dEq_bl, dEq_nn, dEq_ni, dEq_in, dEq_ns, dEq_sn, dEq_is, dEq_si, dNe_int, dNe_str, dNe_ni, dNe_in, dAdd_int,
 isi_bool_non, isi_bool_bl, isi_bool_int, isi_bool_str, isi_bool_lst, isi_bool_tup, isi_bool_dic, isi_int_non, isi_int_bl, isi_int_int, isi_int_str, isi_int_lst, isi_int_tup, isi_int_dic, isi_str_non, isi_str_bl, isi_str_int, isi_str_str, isi_str_lst, isi_str_tup, isi_str_dic, isi_list_non, isi_list_bl, isi_list_int, isi_list_str, isi_list_lst, isi_list_tup, isi_list_dic, isi_tuple_non, isi_tuple_bl, isi_tuple_int, isi_tuple_str, isi_tuple_lst, isi_tuple_tup, isi_tuple_dic, isi_dict_non, isi_dict_bl, isi_dict_int, isi_dict_str, isi_dict_lst, isi_dict_tup, isi_dict_dic,
 List.map_cons, List.map_nil, List.replicate, List.cons_append, List.nil_append, List.append_nil, List.getElem?_cons_zero, List.getElem?_cons_succ, List.getElem?_nil, List.set_cons_zero, List.set_cons_succ, List.set_nil, List.length_cons, List.length_nil, Option.bind_some, Option.bind_none, Option.map_some, Option.map_none, Option.some.injEq, List.cons.injEq, and_true, true_and, and_assoc, exists_eq_left, exists_eq_left', exists_eq_right, exists_eq_right', exists_and_left, exists_const, if_true, if_false, Bool.false_eq_true, reduceCtorEq, put_same, put_put, Dt.int.injEq, Dt.bl.injEq, Dt.adr.injEq, Dt.tup.injEq, Dt.lst.injEq, Dt.str.injEq, decide_eq_true_eq, Bool.not_true, Bool.not_false, hS, cw, c1, cx, pFn, g_gap_of]
            exact ⟨a, c, _, n, rfl, hB, .inr (.inr rfl), fun z => absurd z (by simp; omega), fun _ => ⟨r2, hg2, fun S' h1 h2 => ⟨_, ra _, fin _ _ h1 h2⟩⟩⟩
          · simp only [gt_iff_lt, cx, if_false, oD] at hB fin hg2
            simp [sSeq, sIf, sAsg, sRet, sExpr, sNext, sPar, sRaise, sRetN, sDead, ofP, ofB, ofL, pVar, pC, pOp, pUn, pB, pT, pTup, pLst, aNil, aCons, bAnd_eq, bOr_eq, bNot, pIf_eq, pCall, pFn, oLen,  dAt, dFld, dDic, oIsN, oNotN, isN, asB_bl, dI, dI2, gNm, gFld, gTup2, gKey, gIx, tTupE, tLstE, tLstM, tACons, tCallF, tMethF, tMakeF, tBin, tListM, tApp, tDic, tAll, tIfE, tAndB, tOrB, tTst, tB1, tNotB, setF, startD, oList, vAnd_eq, vOr_eq, vNot, dTru, tRng1, oAll, tUnE, tDead, bDead, sFldU, sNmU, pSl, oSome, oNone, oMin, oMax, asI, pCh_eq, cutD_mid, cutD_to, cutD_from, band15, band255, oInt_int,
 dLst_lst, dTup_tup, dLen_lst, dLen_tup, dSeq_lst, dSeq_tup, dSeq_scr, dIx_lst, dIx_tup, at0, at1, at2, at3, at4, at5, at6, at7, dEq_int, dEq_str, dEq_bl, dEq_nn, dEq_ni, dEq_in, dEq_ns, dEq_sn, dEq_is, dEq_si, dNe_int, dNe_str, dNe_ni, dNe_in, dAdd_int,
 isi_bool_non, isi_bool_bl, isi_bool_int, isi_bool_str, isi_bool_lst, isi_bool_tup, isi_bool_dic, isi_int_non, isi_int_bl, isi_int_int, isi_int_str, isi_int_lst, isi_int_tup, isi_int_dic, isi_str_non, isi_str_bl, isi_str_int, isi_str_str, isi_str_lst, isi_str_tup, isi_str_dic, isi_list_non, isi_list_bl, isi_list_int, isi_list_str, isi_list_lst, isi_list_tup, isi_list_dic, isi_tuple_non, isi_tuple_bl, isi_tuple_int, isi_tuple_str, isi_tuple_lst, isi_tuple_tup, isi_tuple_dic, isi_dict_non, isi_dict_bl, isi_dict_int, isi_dict_str, isi_dict_lst, isi_dict_tup, isi_dict_dic,
 List.map_cons, List.map_nil, List.replicate, List.cons_append, List.nil_append, List.append_nil, List.getElem?_cons_zero, List.getElem?_cons_succ, List.getElem?_nil, List.set_cons_zero, List.set_cons_succ, List.set_nil, List.length_cons, List.length_nil, Option.bind_some, Option.bind_none, Option.map_some, Option.map_none, Option.some.injEq, List.cons.injEq, and_true, true_and, and_assoc, exists_eq_left, exists_eq_left', exists_eq_right, exists_eq_right', exists_and_left, exists_const, if_true, if_false, Bool.false_eq_true, reduceCtorEq, put_same, put_put, Dt.int.injEq, Dt.bl.injEq, Dt.adr.injEq, Dt.tup.injEq, Dt.lst.injEq, Dt.str.injEq, decide_eq_true_eq, Bool.not_true, Bool.not_false, hS, cw, c1, cx, pFn, g_gap_of]
            exact ⟨a, c, _, n, rfl, hB, .inr (.inr rfl), fun z => absurd z (by simp; omega), fun _ => ⟨r2, hg2, fun S' h1 h2 => ⟨_, ra _, fin _ _ h1 h2⟩⟩⟩
        · simp only [c1, c0, if_false, ne_eq, not_false_eq_true, if_true] at hr
          cases hr
          by_cases c2 : w = 2
          · have kk := k (S1.put a (.ins A.k_Sender [il m1.data, .int m1.waits, .str "refused", .adr c, .int m1.pos, .int m1.number, oD m1.left, .int m1.gap, .non])) (by
              simp only [c2, if_true]
              exact ⟨⟨_, put_same, .inl rfl⟩, by rw [put_ne ne]; exact hc, ne, (⟨wf.len, fun _ => ⟨rW, rS⟩⟩)⟩) fun b h1 h2 => by rw [put_ne h1]; exact hf1 b h1 h2
            simp [sSeq, sIf, sAsg, sRet, sExpr, sNext, sPar, sRaise, sRetN, sDead, ofP, ofB, ofL, pVar, pC, pOp, pUn, pB, pT, pTup, pLst, aNil, aCons, bAnd_eq, bOr_eq, bNot, pIf_eq, pCall, pFn, oLen,  dAt, dFld, dDic, oIsN, oNotN, isN, asB_bl, dI, dI2, gNm, gFld, gTup2, gKey, gIx, tTupE, tLstE, tLstM, tACons, tCallF, tMethF, tMakeF, tBin, tListM, tApp, tDic, tAll, tIfE, tAndB, tOrB, tTst, tB1, tNotB, setF, startD, oList, vAnd_eq, vOr_eq, vNot, dTru, tRng1, oAll, tUnE, tDead, bDead, sFldU, sNmU, pSl, oSome, oNone, oMin, oMax, asI, pCh_eq, cutD_mid, cutD_to, cutD_from, band15, band255, oInt_int,
 dLst_lst, dTup_tup, dLen_lst, dLen_tup, dSeq_lst, dSeq_tup, dSeq_scr, dIx_lst, dIx_tup, at0, at1, at2, at3, at4, at5, at6, at7, dEq_int, dEq_str, dEq_bl, dEq_nn, dEq_ni, dEq_in, dEq_ns, dEq_sn, dEq_is, dEq_si, dNe_int, dNe_str, dNe_ni, dNe_in, dAdd_int,
 isi_bool_non, isi_bool_bl, isi_bool_int, isi_bool_str, isi_bool_lst, isi_bool_tup, isi_bool_dic, isi_int_non, isi_int_bl, isi_int_int, isi_int_str, isi_int_lst, isi_int_tup, isi_int_dic, isi_str_non, isi_str_bl, isi_str_int, isi_str_str, isi_str_lst, isi_str_tup, isi_str_dic, isi_list_non, isi_list_bl, isi_list_int, isi_list_str, isi_list_lst, isi_list_tup, isi_list_dic, isi_tuple_non, isi_tuple_bl, isi_tuple_int, isi_tuple_str, isi_tuple_lst, isi_tuple_tup, isi_tuple_dic, isi_dict_non, isi_dict_bl, isi_dict_int, isi_dict_str, isi_dict_lst, isi_dict_tup, isi_dict_dic,
 List.map_cons, List.map_nil, List.replicate, List.cons_append, List.nil_append, List.append_nil, List.getElem?_cons_zero, List.getElem?_cons_succ, List.getElem?_nil, List.set_cons_zero, List.set_cons_succ, List.set_nil, List.length_cons, List.length_nil, Option.bind_some, Option.bind_none, Option.map_some, Option.map_none, Option.some.injEq, List.cons.injEq, and_true, true_and, and_assoc, exists_eq_left, exists_eq_left', exists_eq_right, exists_eq_right', exists_and_left, exists_const, if_true, if_false, Bool.false_eq_true, reduceCtorEq, put_same, put_put, Dt.int.injEq, Dt.bl.injEq, Dt.adr.injEq, Dt.tup.injEq, Dt.lst.injEq, Dt.str.injEq, decide_eq_true_eq, Bool.not_true, Bool.not_false, hS, cw, c1, c0, c2, sp_Sender_end]
            exact kk
          · have kk := k (S1.put a (.ins A.k_Sender [il m1.data, .int m1.waits, .str "wrong", .adr c, .int m1.pos, .int m1.number, oD m1.left, .int m1.gap, .non])) (by
              simp only [c2, if_false]
              exact ⟨⟨_, put_same, .inl rfl⟩, by rw [put_ne ne]; exact hc, ne, (⟨wf.len, fun _ => ⟨wW, wS⟩⟩)⟩) fun b h1 h2 => by rw [put_ne h1]; exact hf1 b h1 h2
            simp [sSeq, sIf, sAsg, sRet, sExpr, sNext, sPar, sRaise, sRetN, sDead, ofP, ofB, ofL, pVar, pC, pOp, pUn, pB, pT, pTup, pLst, aNil, aCons, bAnd_eq, bOr_eq, bNot, pIf_eq, pCall, pFn, oLen,  dAt, dFld, dDic, oIsN, oNotN, isN, asB_bl, dI, dI2, gNm, gFld, gTup2, gKey, gIx, tTupE, tLstE, tLstM, tACons, tCallF, tMethF, tMakeF, tBin, tListM, tApp, tDic, tAll, tIfE, tAndB, tOrB, tTst, tB1, tNotB, setF, startD, oList, vAnd_eq, vOr_eq, vNot, dTru, tRng1, oAll, tUnE, tDead, bDead, sFldU, sNmU, pSl, oSome, oNone, oMin, oMax, asI, pCh_eq, cutD_mid, cutD_to, cutD_from, band15, band255, oInt_int,
 dLst_lst, dTup_tup, dLen_lst, dLen_tup, dSeq_lst, dSeq_tup, dSeq_scr, dIx_lst, dIx_tup, at0, at1, at2, at3, at4, at5, at6, at7, dEq_int, dEq_str, dEq_bl, dEq_nn, dEq_ni, dEq_in, dEq_ns, dEq_sn, dEq_is, dEq_si, dNe_int, dNe_str, dNe_ni, dNe_in, dAdd_int,
 isi_bool_non, isi_bool_bl, isi_bool_int, isi_bool_str, isi_bool_lst, isi_bool_tup, isi_bool_dic, isi_int_non, isi_int_bl, isi_int_int, isi_int_str, isi_int_lst, isi_int_tup, isi_int_dic, isi_str_non, isi_str_bl, isi_str_int, isi_str_str, isi_str_lst, isi_str_tup, isi_str_dic, isi_list_non, isi_list_bl, isi_list_int, isi_list_str, isi_list_lst, isi_list_tup, isi_list_dic, isi_tuple_non, isi_tuple_bl, isi_tuple_int, isi_tuple_str, isi_tuple_lst, isi_tuple_tup, isi_tuple_dic, isi_dict_non, isi_dict_bl, isi_dict_int, isi_dict_str, isi_dict_lst, isi_dict_tup, isi_dict_dic,
 List.map_cons, List.map_nil, List.replicate, List.cons_append, List.nil_append, List.append_nil, List.getElem?_cons_zero, List.getElem?_cons_succ, List.getElem?_nil, List.set_cons_zero, List.set_cons_succ, List.set_nil, List.length_cons, List.length_nil, Option.bind_some, Option.bind_none, Option.map_some, Option.map_none, Option.some.injEq, List.cons.injEq, and_true, true_and, and_assoc, exists_eq_left, exists_eq_left', exists_eq_right, exists_eq_right', exists_and_left, exists_const, if_true, if_false, Bool.false_eq_true, reduceCtorEq, put_same, put_put, Dt.int.injEq, Dt.bl.injEq, Dt.adr.injEq, Dt.tup.injEq, Dt.lst.injEq, Dt.str.injEq, decide_eq_true_eq, Bool.not_true, Bool.not_false, hS, cw, c1, c0, c2, sp_Sender_end]
            exact kk
  · simp only [hearM, cw, ne_eq, not_false_eq_true, if_true] at hr
    cases hr
    have kk := k _ hA1 hf1
    simp [sSeq, sIf, sAsg, sRet, sExpr, sNext, sPar, sRaise, sRetN, sDead, ofP, ofB, ofL, pVar, pC, pOp, pUn, pB, pT, pTup, pLst, aNil, aCons, bAnd_eq, bOr_eq, bNot, pIf_eq, pCall, pFn, oLen,  dAt, dFld, dDic, oIsN, oNotN, isN, asB_bl, dI, dI2, gNm, gFld, gTup2, gKey, gIx, tTupE, tLstE, tLstM, tACons, tCallF, tMethF, tMakeF, tBin, tListM, tApp, tDic, tAll, tIfE, tAndB, tOrB, tTst, tB1, tNotB, setF, startD, oList, vAnd_eq, vOr_eq, vNot, dTru, tRng1, oAll, tUnE, tDead, bDead, sFldU, sNmU, pSl, oSome, oNone, oMin, oMax, asI, pCh_eq, cutD_mid, cutD_to, cutD_from, band15, band255, oInt_int,
 dLst_lst, dTup_tup, dLen_lst, dLen_tup, dSeq_lst, dSeq_tup, dSeq_scr, dIx_lst, dIx_tup, at0, at1, at2, at3, at4, at5, at6, at7, dEq_int, dEq_str, dEq_bl, dEq_nn, dEq_ni, dEq_in, dEq_ns, dEq_sn, dEq_is, dEq_si, dNe_int, dNe_str, dNe_ni, dNe_in, dAdd_int,
 isi_bool_non, isi_bool_bl, isi_bool_int, isi_bool_str, isi_bool_lst, isi_bool_tup, isi_bool_dic, isi_int_non, isi_int_bl, isi_int_int, isi_int_str, isi_int_lst, isi_int_tup, isi_int_dic, isi_str_non, isi_str_bl, isi_str_int, isi_str_str, isi_str_lst, isi_str_tup, isi_str_dic, isi_list_non, isi_list_bl, isi_list_int, isi_list_str, isi_list_lst, isi_list_tup, isi_list_dic, isi_tuple_non, isi_tuple_bl, isi_tuple_int, isi_tuple_str, isi_tuple_lst, isi_tuple_tup, isi_tuple_dic, isi_dict_non, isi_dict_bl, isi_dict_int, isi_dict_str, isi_dict_lst, isi_dict_tup, isi_dict_dic,
 List.map_cons, List.map_nil, List.replicate, List.cons_append, List.nil_append, List.append_nil, List.getElem?_cons_zero, List.getElem?_cons_succ, List.getElem?_nil, List.set_cons_zero, List.set_cons_succ, List.set_nil, List.length_cons, List.length_nil, Option.bind_some, Option.bind_none, Option.map_some, Option.map_none, Option.some.injEq, List.cons.injEq, and_true, true_and, and_assoc, exists_eq_left, exists_eq_left', exists_eq_right, exists_eq_right', exists_and_left, exists_const, if_true, if_false, Bool.false_eq_true, reduceCtorEq, put_same, put_put, Dt.int.injEq, Dt.bl.injEq, Dt.adr.injEq, Dt.tup.injEq, Dt.lst.injEq, Dt.str.injEq, decide_eq_true_eq, Bool.not_true, Bool.not_false, hS, cw]
    exact kk
end K47
set_option maxRecDepth 100000
set_option maxHeartbeats 4000000
namespace K47
open PySem PySem.Spec PyProof.Rows L2 Ax
theorem len__law_sender_gets (A : Ad) : ∀ ds S Φ Ψ, sp__law_sender_gets A ds S Φ Ψ → ds.length = 3 := fun ds S Φ Ψ ⟨_, _, _, _, e, _⟩ => by rw [e]; rfl
theorem law__law_sender_gets (A : Ad) : ∀ ds S Φ Ψ, sp__law_sender_gets A ds S Φ Ψ → T__law_sender_gets A (LE0 Φ Ψ) (startD 2 ds) S := by
  rintro ds S Φ Ψ ⟨o, m, oct, n, rfl, hO, lv, hol, r, hr, k⟩
  unfold T__law_sender_gets
  unfold getM at hr
  cases hg : goM m n with
  | none =>
    rw [hg] at hr
    cases hr
  | some r1 =>
  rw [hg, Option.bind_some] at hr
  obtain ⟨g1, g2, g3⟩ := goM_ok hg lv
  refine seqI (fun ds' S' => ds' = [some (.adr o), some (il oct), some (.int n), some (rowsD r1.2), none] ∧ OAt S' o r1.1 ∧ Fr S S' o) ?_ ?_
  case refine_2 =>
    intro Q hQ
    simp [sSeq, sIf, sAsg, sRet, sExpr, sNext, sPar, sRaise, sRetN, sDead, ofP, ofB, ofL, pVar, pC, pOp, pUn, pB, pT, pTup, pLst, aNil, aCons, bAnd_eq, bOr_eq, bNot, pIf_eq, pCall, pFn, oLen,  dAt, dFld, dDic, oIsN, oNotN, isN, asB_bl, dI, dI2, gNm, gFld, gTup2, gKey, gIx, tTupE, tLstE, tLstM, tACons, tCallF, tMethF, tMakeF, tBin, tListM, tApp, tDic, tAll, tIfE, tAndB, tOrB, tTst, tB1, tNotB, setF, startD, oList, vAnd_eq, vOr_eq, vNot, dTru, tRng1, oAll, tUnE, tDead, bDead, sFldU, sNmU, pSl, oSome, oNone, oMin, oMax, asI, pCh_eq, cutD_mid, cutD_to, cutD_from, band15, band255, oInt_int,
 dLst_lst, dTup_tup, dLen_lst, dLen_tup, dSeq_lst, dSeq_tup, dSeq_scr, dIx_lst, dIx_tup, at0, at1, at2, at3, at4, at5, at6, at7, dEq_int, dEq_str, dEq_bl, dEq_nn, dEq_ni, dEq_in, dEq_ns, dEq_sn, dEq_is, dEq_si, dNe_int, dNe_str, dNe_ni, dNe_in, dAdd_int,
 isi_bool_non, isi_bool_bl, isi_bool_int, isi_bool_str, isi_bool_lst, isi_bool_tup, isi_bool_dic, isi_int_non, isi_int_bl, isi_int_int, isi_int_str, isi_int_lst, isi_int_tup, isi_int_dic, isi_str_non, isi_str_bl, isi_str_int, isi_str_str, isi_str_lst, isi_str_tup, isi_str_dic, isi_list_non, isi_list_bl, isi_list_int, isi_list_str, isi_list_lst, isi_list_tup, isi_list_dic, isi_tuple_non, isi_tuple_bl, isi_tuple_int, isi_tuple_str, isi_tuple_lst, isi_tuple_tup, isi_tuple_dic, isi_dict_non, isi_dict_bl, isi_dict_int, isi_dict_str, isi_dict_lst, isi_dict_tup, isi_dict_dic,
 List.map_cons, List.map_nil, List.replicate, List.cons_append, List.nil_append, List.append_nil, List.getElem?_cons_zero, List.getElem?_cons_succ, List.getElem?_nil, List.set_cons_zero, List.set_cons_succ, List.set_nil, List.length_cons, List.length_nil, Option.bind_some, Option.bind_none, Option.map_some, Option.map_none, Option.some.injEq, List.cons.injEq, and_true, true_and, and_assoc, exists_eq_left, exists_eq_left', exists_eq_right, exists_eq_right', exists_and_left, exists_const, if_true, if_false, Bool.false_eq_true, reduceCtorEq, put_same, put_put, Dt.int.injEq, Dt.bl.injEq, Dt.adr.injEq, Dt.tup.injEq, Dt.lst.injEq, Dt.str.injEq, decide_eq_true_eq, Bool.not_true, Bool.not_false]
    exact ⟨o, m, n, rfl, hO, lv, r1, hg, fun S' h1 h2 => hQ _ _ ⟨rfl, h1, h2⟩⟩
  rintro _ S1 ⟨rfl, hA1, hf1⟩
  obtain ⟨m1, f1⟩ := r1
  obtain ⟨hS, wf⟩ := id hA1
  simp only at hr g1 g2 g3 hS wf
  by_cases cw : m1.state = "waiting"
  · simp only [hearM, cw, ne_eq, not_true, if_false] at hr
    cases hfl : flow oct with
    | none =>
      rw [hfl] at hr
      cases hr
      have kk := k _ hA1 hf1
      rcases oct with _ | ⟨w, _ | ⟨a, _ | ⟨b, r⟩⟩⟩
      · simp [sSeq, sIf, sAsg, sRet, sExpr, sNext, sPar, sRaise, sRetN, sDead, ofP, ofB, ofL, pVar, pC, pOp, pUn, pB, pT, pTup, pLst, aNil, aCons, bAnd_eq, bOr_eq, bNot, pIf_eq, pCall, pFn, oLen,  dAt, dFld, dDic, oIsN, oNotN, isN, asB_bl, dI, dI2, gNm, gFld, gTup2, gKey, gIx, tTupE, tLstE, tLstM, tACons, tCallF, tMethF, tMakeF, tBin, tListM, tApp, tDic, tAll, tIfE, tAndB, tOrB, tTst, tB1, tNotB, setF, startD, oList, vAnd_eq, vOr_eq, vNot, dTru, tRng1, oAll, tUnE, tDead, bDead, sFldU, sNmU, pSl, oSome, oNone, oMin, oMax, asI, pCh_eq, cutD_mid, cutD_to, cutD_from, band15, band255, oInt_int,
 dLst_lst, dTup_tup, dLen_lst, dLen_tup, dSeq_lst, dSeq_tup, dSeq_scr, dIx_lst, dIx_tup, at0, at1, at2, at3, at4, at5, at6, at7, dEq_int, dEq_str, dEq_bl, dEq_nn, dEq_ni, dEq_in, dEq_ns, dEq_sn, dEq_is, dEq_si, dNe_int, dNe_str, dNe_ni, dNe_in, dAdd_int,
 isi_bool_non, isi_bool_bl, isi_bool_int, isi_bool_str, isi_bool_lst, isi_bool_tup, isi_bool_dic, isi_int_non, isi_int_bl, isi_int_int, isi_int_str, isi_int_lst, isi_int_tup, isi_int_dic, isi_str_non, isi_str_bl, isi_str_int, isi_str_str, isi_str_lst, isi_str_tup, isi_str_dic, isi_list_non, isi_list_bl, isi_list_int, isi_list_str, isi_list_lst, isi_list_tup, isi_list_dic, isi_tuple_non, isi_tuple_bl, isi_tuple_int, isi_tuple_str, isi_tuple_lst, isi_tuple_tup, isi_tuple_dic, isi_dict_non, isi_dict_bl, isi_dict_int, isi_dict_str, isi_dict_lst, isi_dict_tup, isi_dict_dic,
 List.map_cons, List.map_nil, List.replicate, List.cons_append, List.nil_append, List.append_nil, List.getElem?_cons_zero, List.getElem?_cons_succ, List.getElem?_nil, List.set_cons_zero, List.set_cons_succ, List.set_nil, List.length_cons, List.length_nil, Option.bind_some, Option.bind_none, Option.map_some, Option.map_none, Option.some.injEq, List.cons.injEq, and_true, true_and, and_assoc, exists_eq_left, exists_eq_left', exists_eq_right, exists_eq_right', exists_and_left, exists_const, if_true, if_false, Bool.false_eq_true, reduceCtorEq, put_same, put_put, Dt.int.injEq, Dt.bl.injEq, Dt.adr.injEq, Dt.tup.injEq, Dt.lst.injEq, Dt.str.injEq, decide_eq_true_eq, Bool.not_true, Bool.not_false, hS, cw, il]
        exact kk
      · simp [sSeq, sIf, sAsg, sRet, sExpr, sNext, sPar, sRaise, sRetN, sDead, ofP, ofB, ofL, pVar, pC, pOp, pUn, pB, pT, pTup, pLst, aNil, aCons, bAnd_eq, bOr_eq, bNot, pIf_eq, pCall, pFn, oLen,  dAt, dFld, dDic, oIsN, oNotN, isN, asB_bl, dI, dI2, gNm, gFld, gTup2, gKey, gIx, tTupE, tLstE, tLstM, tACons, tCallF, tMethF, tMakeF, tBin, tListM, tApp, tDic, tAll, tIfE, tAndB, tOrB, tTst, tB1, tNotB, setF, startD, oList, vAnd_eq, vOr_eq, vNot, dTru, tRng1, oAll, tUnE, tDead, bDead, sFldU, sNmU, pSl, oSome, oNone, oMin, oMax, asI, pCh_eq, cutD_mid, cutD_to, cutD_from, band15, band255, oInt_int,
 dLst_lst, dTup_tup, dLen_lst, dLen_tup, dSeq_lst, dSeq_tup, dSeq_scr, dIx_lst, dIx_tup, at0, at1, at2, at3, at4, at5, at6, at7, dEq_int, dEq_str, dEq_bl, dEq_nn, dEq_ni, dEq_in, dEq_ns, dEq_sn, dEq_is, dEq_si, dNe_int, dNe_str, dNe_ni, dNe_in, dAdd_int,
 isi_bool_non, isi_bool_bl, isi_bool_int, isi_bool_str, isi_bool_lst, isi_bool_tup, isi_bool_dic, isi_int_non, isi_int_bl, isi_int_int, isi_int_str, isi_int_lst, isi_int_tup, isi_int_dic, isi_str_non, isi_str_bl, isi_str_int, isi_str_str, isi_str_lst, isi_str_tup, isi_str_dic, isi_list_non, isi_list_bl, isi_list_int, isi_list_str, isi_list_lst, isi_list_tup, isi_list_dic, isi_tuple_non, isi_tuple_bl, isi_tuple_int, isi_tuple_str, isi_tuple_lst, isi_tuple_tup, isi_tuple_dic, isi_dict_non, isi_dict_bl, isi_dict_int, isi_dict_str, isi_dict_lst, isi_dict_tup, isi_dict_dic,
 List.map_cons, List.map_nil, List.replicate, List.cons_append, List.nil_append, List.append_nil, List.getElem?_cons_zero, List.getElem?_cons_succ, List.getElem?_nil, List.set_cons_zero, List.set_cons_succ, List.set_nil, List.length_cons, List.length_nil, Option.bind_some, Option.bind_none, Option.map_some, Option.map_none, Option.some.injEq, List.cons.injEq, and_true, true_and, and_assoc, exists_eq_left, exists_eq_left', exists_eq_right, exists_eq_right', exists_and_left, exists_const, if_true, if_false, Bool.false_eq_true, reduceCtorEq, put_same, put_put, Dt.int.injEq, Dt.bl.injEq, Dt.adr.injEq, Dt.tup.injEq, Dt.lst.injEq, Dt.str.injEq, decide_eq_true_eq, Bool.not_true, Bool.not_false, hS, cw, il]
        exact kk
      · simp [sSeq, sIf, sAsg, sRet, sExpr, sNext, sPar, sRaise, sRetN, sDead, ofP, ofB, ofL, pVar, pC, pOp, pUn, pB, pT, pTup, pLst, aNil, aCons, bAnd_eq, bOr_eq, bNot, pIf_eq, pCall, pFn, oLen,  dAt, dFld, dDic, oIsN, oNotN, isN, asB_bl, dI, dI2, gNm, gFld, gTup2, gKey, gIx, tTupE, tLstE, tLstM, tACons, tCallF, tMethF, tMakeF, tBin, tListM, tApp, tDic, tAll, tIfE, tAndB, tOrB, tTst, tB1, tNotB, setF, startD, oList, vAnd_eq, vOr_eq, vNot, dTru, tRng1, oAll, tUnE, tDead, bDead, sFldU, sNmU, pSl, oSome, oNone, oMin, oMax, asI, pCh_eq, cutD_mid, cutD_to, cutD_from, band15, band255, oInt_int,
 dLst_lst, dTup_tup, dLen_lst, dLen_tup, dSeq_lst, dSeq_tup, dSeq_scr, dIx_lst, dIx_tup, at0, at1, at2, at3, at4, at5, at6, at7, dEq_int, dEq_str, dEq_bl, dEq_nn, dEq_ni, dEq_in, dEq_ns, dEq_sn, dEq_is, dEq_si, dNe_int, dNe_str, dNe_ni, dNe_in, dAdd_int,
 isi_bool_non, isi_bool_bl, isi_bool_int, isi_bool_str, isi_bool_lst, isi_bool_tup, isi_bool_dic, isi_int_non, isi_int_bl, isi_int_int, isi_int_str, isi_int_lst, isi_int_tup, isi_int_dic, isi_str_non, isi_str_bl, isi_str_int, isi_str_str, isi_str_lst, isi_str_tup, isi_str_dic, isi_list_non, isi_list_bl, isi_list_int, isi_list_str, isi_list_lst, isi_list_tup, isi_list_dic, isi_tuple_non, isi_tuple_bl, isi_tuple_int, isi_tuple_str, isi_tuple_lst, isi_tuple_tup, isi_tuple_dic, isi_dict_non, isi_dict_bl, isi_dict_int, isi_dict_str, isi_dict_lst, isi_dict_tup, isi_dict_dic,
 List.map_cons, List.map_nil, List.replicate, List.cons_append, List.nil_append, List.append_nil, List.getElem?_cons_zero, List.getElem?_cons_succ, List.getElem?_nil, List.set_cons_zero, List.set_cons_succ, List.set_nil, List.length_cons, List.length_nil, Option.bind_some, Option.bind_none, Option.map_some, Option.map_none, Option.some.injEq, List.cons.injEq, and_true, true_and, and_assoc, exists_eq_left, exists_eq_left', exists_eq_right, exists_eq_right', exists_and_left, exists_const, if_true, if_false, Bool.false_eq_true, reduceCtorEq, put_same, put_put, Dt.int.injEq, Dt.bl.injEq, Dt.adr.injEq, Dt.tup.injEq, Dt.lst.injEq, Dt.str.injEq, decide_eq_true_eq, Bool.not_true, Bool.not_false, hS, cw, il]
        exact kk
      · have h5 : r.length ≤ 5 := by simp at hol; omega
        have hw : ¬ w / 16 = 3 := fun z => by simp [flow, z, h5] at hfl
        have l1 : (2 : Int) < (r.length : Int) + 1 + 1 + 1 := by omega
        have l2 : (r.length : Int) + 1 + 1 + 1 < 9 := by omega
        simp [sSeq, sIf, sAsg, sRet, sExpr, sNext, sPar, sRaise, sRetN, sDead, ofP, ofB, ofL, pVar, pC, pOp, pUn, pB, pT, pTup, pLst, aNil, aCons, bAnd_eq, bOr_eq, bNot, pIf_eq, pCall, pFn, oLen,  dAt, dFld, dDic, oIsN, oNotN, isN, asB_bl, dI, dI2, gNm, gFld, gTup2, gKey, gIx, tTupE, tLstE, tLstM, tACons, tCallF, tMethF, tMakeF, tBin, tListM, tApp, tDic, tAll, tIfE, tAndB, tOrB, tTst, tB1, tNotB, setF, startD, oList, vAnd_eq, vOr_eq, vNot, dTru, tRng1, oAll, tUnE, tDead, bDead, sFldU, sNmU, pSl, oSome, oNone, oMin, oMax, asI, pCh_eq, cutD_mid, cutD_to, cutD_from, band15, band255, oInt_int,
 dLst_lst, dTup_tup, dLen_lst, dLen_tup, dSeq_lst, dSeq_tup, dSeq_scr, dIx_lst, dIx_tup, at0, at1, at2, at3, at4, at5, at6, at7, dEq_int, dEq_str, dEq_bl, dEq_nn, dEq_ni, dEq_in, dEq_ns, dEq_sn, dEq_is, dEq_si, dNe_int, dNe_str, dNe_ni, dNe_in, dAdd_int,
 isi_bool_non, isi_bool_bl, isi_bool_int, isi_bool_str, isi_bool_lst, isi_bool_tup, isi_bool_dic, isi_int_non, isi_int_bl, isi_int_int, isi_int_str, isi_int_lst, isi_int_tup, isi_int_dic, isi_str_non, isi_str_bl, isi_str_int, isi_str_str, isi_str_lst, isi_str_tup, isi_str_dic, isi_list_non, isi_list_bl, isi_list_int, isi_list_str, isi_list_lst, isi_list_tup, isi_list_dic, isi_tuple_non, isi_tuple_bl, isi_tuple_int, isi_tuple_str, isi_tuple_lst, isi_tuple_tup, isi_tuple_dic, isi_dict_non, isi_dict_bl, isi_dict_int, isi_dict_str, isi_dict_lst, isi_dict_tup, isi_dict_dic,
 List.map_cons, List.map_nil, List.replicate, List.cons_append, List.nil_append, List.append_nil, List.getElem?_cons_zero, List.getElem?_cons_succ, List.getElem?_nil, List.set_cons_zero, List.set_cons_succ, List.set_nil, List.length_cons, List.length_nil, Option.bind_some, Option.bind_none, Option.map_some, Option.map_none, Option.some.injEq, List.cons.injEq, and_true, true_and, and_assoc, exists_eq_left, exists_eq_left', exists_eq_right, exists_eq_right', exists_and_left, exists_const, if_true, if_false, Bool.false_eq_true, reduceCtorEq, put_same, put_put, Dt.int.injEq, Dt.bl.injEq, Dt.adr.injEq, Dt.tup.injEq, Dt.lst.injEq, Dt.str.injEq, decide_eq_true_eq, Bool.not_true, Bool.not_false, hS, cw, il, hw, l1, l2]
        exact kk
    | some wab =>
      obtain ⟨w, x, y⟩ := wab
      rw [hfl] at hr
      simp only at hr
      have hb : m1.bell ≠ none := fun z => (wf.sw z).1 cw
      rcases oct with _ | ⟨v, _ | ⟨a, _ | ⟨b, t⟩⟩⟩
      · simp [flow] at hfl
      · simp [flow] at hfl
      · simp [flow] at hfl
      have h5 : t.length ≤ 5 := by simp at hol; omega
      have l1 : (2 : Int) < (t.length : Int) + 1 + 1 + 1 := by omega
      have l2 : (t.length : Int) + 1 + 1 + 1 < 9 := by omega
      have hv : v / 16 = 3 := by
        by_cases z : v / 16 = 3
        · exact z
        · simp [flow, z] at hfl
      simp [flow, hv, h5] at hfl
      obtain ⟨e1, rfl, rfl⟩ := hfl
      by_cases c1 : w = 1
      · subst c1
        simp only [if_true] at hr
        cases hr
        by_cases cz : m1.waits - 1 < 0
        · have kk := k (S1.put o (.dic OK [il m1.data, .int (m1.waits - 1), .str "tired", .int m1.pos, .int m1.number, oD m1.left, .int m1.gap, .non, .int m1.now])) (by
            simp only [cz, if_true]
            exact ⟨put_same, (⟨wf.len, fun _ => ⟨tW, tS⟩⟩)⟩) fun b h1 => by rw [put_ne h1]; exact hf1 b h1
          simp [sSeq, sIf, sAsg, sRet, sExpr, sNext, sPar, sRaise, sRetN, sDead, ofP, ofB, ofL, pVar, pC, pOp, pUn, pB, pT, pTup, pLst, aNil, aCons, bAnd_eq, bOr_eq, bNot, pIf_eq, pCall, pFn, oLen,  dAt, dFld, dDic, oIsN, oNotN, isN, asB_bl, dI, dI2, gNm, gFld, gTup2, gKey, gIx, tTupE, tLstE, tLstM, tACons, tCallF, tMethF, tMakeF, tBin, tListM, tApp, tDic, tAll, tIfE, tAndB, tOrB, tTst, tB1, tNotB, setF, startD, oList, vAnd_eq, vOr_eq, vNot, dTru, tRng1, oAll, tUnE, tDead, bDead, sFldU, sNmU, pSl, oSome, oNone, oMin, oMax, asI, pCh_eq, cutD_mid, cutD_to, cutD_from, band15, band255, oInt_int,
 dLst_lst, dTup_tup, dLen_lst, dLen_tup, dSeq_lst, dSeq_tup, dSeq_scr, dIx_lst, dIx_tup, at0, at1, at2, at3, at4, at5, at6, at7, dEq_int, dEq_str, dEq_bl, dEq_nn, dEq_ni, dEq_in, dEq_ns, dEq_sn, dEq_is, dEq_si, dNe_int, dNe_str, dNe_ni, dNe_in, dAdd_int,
 isi_bool_non, isi_bool_bl, isi_bool_int, isi_bool_str, isi_bool_lst, isi_bool_tup, isi_bool_dic, isi_int_non, isi_int_bl, isi_int_int, isi_int_str, isi_int_lst, isi_int_tup, isi_int_dic, isi_str_non, isi_str_bl, isi_str_int, isi_str_str, isi_str_lst, isi_str_tup, isi_str_dic, isi_list_non, isi_list_bl, isi_list_int, isi_list_str, isi_list_lst, isi_list_tup, isi_list_dic, isi_tuple_non, isi_tuple_bl, isi_tuple_int, isi_tuple_str, isi_tuple_lst, isi_tuple_tup, isi_tuple_dic, isi_dict_non, isi_dict_bl, isi_dict_int, isi_dict_str, isi_dict_lst, isi_dict_tup, isi_dict_dic,
 List.map_cons, List.map_nil, List.replicate, List.cons_append, List.nil_append, List.append_nil, List.getElem?_cons_zero, List.getElem?_cons_succ, List.getElem?_nil, List.set_cons_zero, List.set_cons_succ, List.set_nil, List.length_cons, List.length_nil, Option.bind_some, Option.bind_none, Option.map_some, Option.map_none, Option.some.injEq, List.cons.injEq, and_true, true_and, and_assoc, exists_eq_left, exists_eq_left', exists_eq_right, exists_eq_right', exists_and_left, exists_const, if_true, if_false, Bool.false_eq_true, reduceCtorEq, put_same, put_put, Dt.int.injEq, Dt.bl.injEq, Dt.adr.injEq, Dt.tup.injEq, Dt.lst.injEq, Dt.str.injEq, decide_eq_true_eq, Bool.not_true, Bool.not_false, hS, cw, cz, il, l1, l2, hv, e1]
          exact kk
        · have kk := k (S1.put o (.dic OK [il m1.data, .int (m1.waits - 1), .str "waiting", .int m1.pos, .int m1.number, oD m1.left, .int m1.gap, .int (n + 1000), .int m1.now])) (by
            simp only [cz, if_false]
            exact ⟨put_same, (⟨wf.len, fun z => by simp at z⟩)⟩) fun b h1 => by rw [put_ne h1]; exact hf1 b h1
          simp [sSeq, sIf, sAsg, sRet, sExpr, sNext, sPar, sRaise, sRetN, sDead, ofP, ofB, ofL, pVar, pC, pOp, pUn, pB, pT, pTup, pLst, aNil, aCons, bAnd_eq, bOr_eq, bNot, pIf_eq, pCall, pFn, oLen,  dAt, dFld, dDic, oIsN, oNotN, isN, asB_bl, dI, dI2, gNm, gFld, gTup2, gKey, gIx, tTupE, tLstE, tLstM, tACons, tCallF, tMethF, tMakeF, tBin, tListM, tApp, tDic, tAll, tIfE, tAndB, tOrB, tTst, tB1, tNotB, setF, startD, oList, vAnd_eq, vOr_eq, vNot, dTru, tRng1, oAll, tUnE, tDead, bDead, sFldU, sNmU, pSl, oSome, oNone, oMin, oMax, asI, pCh_eq, cutD_mid, cutD_to, cutD_from, band15, band255, oInt_int,
 dLst_lst, dTup_tup, dLen_lst, dLen_tup, dSeq_lst, dSeq_tup, dSeq_scr, dIx_lst, dIx_tup, at0, at1, at2, at3, at4, at5, at6, at7, dEq_int, dEq_str, dEq_bl, dEq_nn, dEq_ni, dEq_in, dEq_ns, dEq_sn, dEq_is, dEq_si, dNe_int, dNe_str, dNe_ni, dNe_in, dAdd_int,
 isi_bool_non, isi_bool_bl, isi_bool_int, isi_bool_str, isi_bool_lst, isi_bool_tup, isi_bool_dic, isi_int_non, isi_int_bl, isi_int_int, isi_int_str, isi_int_lst, isi_int_tup, isi_int_dic, isi_str_non, isi_str_bl, isi_str_int, isi_str_str, isi_str_lst, isi_str_tup, isi_str_dic, isi_list_non, isi_list_bl, isi_list_int, isi_list_str, isi_list_lst, isi_list_tup, isi_list_dic, isi_tuple_non, isi_tuple_bl, isi_tuple_int, isi_tuple_str, isi_tuple_lst, isi_tuple_tup, isi_tuple_dic, isi_dict_non, isi_dict_bl, isi_dict_int, isi_dict_str, isi_dict_lst, isi_dict_tup, isi_dict_dic,
 List.map_cons, List.map_nil, List.replicate, List.cons_append, List.nil_append, List.append_nil, List.getElem?_cons_zero, List.getElem?_cons_succ, List.getElem?_nil, List.set_cons_zero, List.set_cons_succ, List.set_nil, List.length_cons, List.length_nil, Option.bind_some, Option.bind_none, Option.map_some, Option.map_none, Option.some.injEq, List.cons.injEq, and_true, true_and, and_assoc, exists_eq_left, exists_eq_left', exists_eq_right, exists_eq_right', exists_and_left, exists_const, if_true, if_false, Bool.false_eq_true, reduceCtorEq, put_same, put_put, Dt.int.injEq, Dt.bl.injEq, Dt.adr.injEq, Dt.tup.injEq, Dt.lst.injEq, Dt.str.injEq, decide_eq_true_eq, Bool.not_true, Bool.not_false, hS, cw, cz, il, l1, l2, hv, e1]
          exact kk
      · by_cases c0 : w = 0
        · subst c0
          simp only [c1, if_false, ne_eq, not_true] at hr
          cases hg2 : goM { m1 with state := "sending", left := if a > 0 then some a else none, gap := clip b, bell := some n } n with
          | none =>
            rw [hg2] at hr
            cases hr
          | some r2 =>
          rw [hg2] at hr
          cases hr
          obtain ⟨q1, q2, q3⟩ := goM_ok hg2 (.inr (.inr rfl))
          have hB : OAt (S1.put o (.dic OK [il m1.data, .int m1.waits, .str "sending", .int m1.pos, .int m1.number, oD (if a > 0 then some a else none), .int (clip b), .int n, .int m1.now])) o { m1 with state := "sending", left := if a > 0 then some a else none, gap := clip b, bell := some n } :=
            ⟨put_same, ⟨wf.len, fun z => by simp at z⟩⟩
          have fin : ∀ S2 S', OAt S' o r2.1 → Fr (S1.put o S2) S' o → Φ (rowsD (f1 ++ r2.2)) S' := fun S2 S' h1 h2 => k _ h1 fun b h3 => (h2 b h3).trans (by rw [put_ne h3]; exact hf1 b h3)
          have ra : ∀ S, dAdd S (rowsD f1) (rowsD r2.2) = _ := fun S => rows_add (S := S) (by omega)
          by_cases cx : 0 < a
          · simp only [gt_iff_lt, cx, if_true, oD, clip] at hB fin hg2
            simp [sSeq, sIf, sAsg, sRet, sExpr, sNext, sPar, sRaise, sRetN, sDead, ofP, ofB, ofL, pVar, pC, pOp, pUn, pB, pT, pTup, pLst, aNil, aCons, bAnd_eq, bOr_eq, bNot, pIf_eq, pCall, pFn, oLen,  dAt, dFld, dDic, oIsN, oNotN, isN, asB_bl, dI, dI2, gNm, gFld, gTup2, gKey, gIx, tTupE, tLstE, tLstM, tACons, tCallF, tMethF, tMakeF, tBin, tListM, tApp, tDic, tAll, tIfE, tAndB, tOrB, tTst, tB1, tNotB, setF, startD, oList, vAnd_eq, vOr_eq, vNot, dTru, tRng1, oAll, tUnE, tDead, bDead, sFldU, sNmU, pSl, oSome, oNone, oMin, oMax, asI, pCh_eq, cutD_mid, cutD_to, cutD_from, band15, band255, oInt_int,
 dLst_lst, dTup_tup, dLen_lst, dLen_tup, dSeq_lst, dSeq_tup, dSeq_scr, dIx_lst, dIx_tup, at0, at1, at2, at3, at4, at5, at6, at7, dEq_int, dEq_str, dEq_bl, dEq_nn, dEq_ni, dEq_in, dEq_ns, dEq_sn, dEq_is, dEq_si, dNe_int, dNe_str, dNe_ni, dNe_in, dAdd_int,
 isi_bool_non, isi_bool_bl, isi_bool_int, isi_bool_str, isi_bool_lst, isi_bool_tup, isi_bool_dic, isi_int_non, isi_int_bl, isi_int_int, isi_int_str, isi_int_lst, isi_int_tup, isi_int_dic, isi_str_non, isi_str_bl, isi_str_int, isi_str_str, isi_str_lst, isi_str_tup, isi_str_dic, isi_list_non, isi_list_bl, isi_list_int, isi_list_str, isi_list_lst, isi_list_tup, isi_list_dic, isi_tuple_non, isi_tuple_bl, isi_tuple_int, isi_tuple_str, isi_tuple_lst, isi_tuple_tup, isi_tuple_dic, isi_dict_non, isi_dict_bl, isi_dict_int, isi_dict_str, isi_dict_lst, isi_dict_tup, isi_dict_dic,
 List.map_cons, List.map_nil, List.replicate, List.cons_append, List.nil_append, List.append_nil, List.getElem?_cons_zero, List.getElem?_cons_succ, List.getElem?_nil, List.set_cons_zero, List.set_cons_succ, List.set_nil, List.length_cons, List.length_nil, Option.bind_some, Option.bind_none, Option.map_some, Option.map_none, Option.some.injEq, List.cons.injEq, and_true, true_and, and_assoc, exists_eq_left, exists_eq_left', exists_eq_right, exists_eq_right', exists_and_left, exists_const, if_true, if_false, Bool.false_eq_true, reduceCtorEq, put_same, put_put, Dt.int.injEq, Dt.bl.injEq, Dt.adr.injEq, Dt.tup.injEq, Dt.lst.injEq, Dt.str.injEq, decide_eq_true_eq, Bool.not_true, Bool.not_false, hS, cw, il, l1, l2, hv, e1, cx]
            refine ⟨o, _, n, rfl, hB, .inr (.inr rfl), r2, hg2, fun S' h1 h2 => ?_⟩
            simp [sSeq, sIf, sAsg, sRet, sExpr, sNext, sPar, sRaise, sRetN, sDead, ofP, ofB, ofL, pVar, pC, pOp, pUn, pB, pT, pTup, pLst, aNil, aCons, bAnd_eq, bOr_eq, bNot, pIf_eq, pCall, pFn, oLen,  dAt, dFld, dDic, oIsN, oNotN, isN, asB_bl, dI, dI2, gNm, gFld, gTup2, gKey, gIx, tTupE, tLstE, tLstM, tACons, tCallF, tMethF, tMakeF, tBin, tListM, tApp, tDic, tAll, tIfE, tAndB, tOrB, tTst, tB1, tNotB, setF, startD, oList, vAnd_eq, vOr_eq, vNot, dTru, tRng1, oAll, tUnE, tDead, bDead, sFldU, sNmU, pSl, oSome, oNone, oMin, oMax, asI, pCh_eq, cutD_mid, cutD_to, cutD_from, band15, band255, oInt_int,
 dLst_lst, dTup_tup, dLen_lst, dLen_tup, dSeq_lst, dSeq_tup, dSeq_scr, dIx_lst, dIx_tup, at0, at1, at2, at3, at4, at5, at6, at7, dEq_int, dEq_str, dEq_bl, dEq_nn, dEq_ni, dEq_in, dEq_ns, dEq_sn, dEq_is, dEq_si, dNe_int, dNe_str, dNe_ni, dNe_in, dAdd_int,
 isi_bool_non, isi_bool_bl, isi_bool_int, isi_bool_str, isi_bool_lst, isi_bool_tup, isi_bool_dic, isi_int_non, isi_int_bl, isi_int_int, isi_int_str, isi_int_lst, isi_int_tup, isi_int_dic, isi_str_non, isi_str_bl, isi_str_int, isi_str_str, isi_str_lst, isi_str_tup, isi_str_dic, isi_list_non, isi_list_bl, isi_list_int, isi_list_str, isi_list_lst, isi_list_tup, isi_list_dic, isi_tuple_non, isi_tuple_bl, isi_tuple_int, isi_tuple_str, isi_tuple_lst, isi_tuple_tup, isi_tuple_dic, isi_dict_non, isi_dict_bl, isi_dict_int, isi_dict_str, isi_dict_lst, isi_dict_tup, isi_dict_dic,
 List.map_cons, List.map_nil, List.replicate, List.cons_append, List.nil_append, List.append_nil, List.getElem?_cons_zero, List.getElem?_cons_succ, List.getElem?_nil, List.set_cons_zero, List.set_cons_succ, List.set_nil, List.length_cons, List.length_nil, Option.bind_some, Option.bind_none, Option.map_some, Option.map_none, Option.some.injEq, List.cons.injEq, and_true, true_and, and_assoc, exists_eq_left, exists_eq_left', exists_eq_right, exists_eq_right', exists_and_left, exists_const, if_true, if_false, Bool.false_eq_true, reduceCtorEq, put_same, put_put, Dt.int.injEq, Dt.bl.injEq, Dt.adr.injEq, Dt.tup.injEq, Dt.lst.injEq, Dt.str.injEq, decide_eq_true_eq, Bool.not_true, Bool.not_false, ra]
            exact fin _ _ h1 h2
          · simp only [gt_iff_lt, cx, if_false, oD, clip] at hB fin hg2
            simp [sSeq, sIf, sAsg, sRet, sExpr, sNext, sPar, sRaise, sRetN, sDead, ofP, ofB, ofL, pVar, pC, pOp, pUn, pB, pT, pTup, pLst, aNil, aCons, bAnd_eq, bOr_eq, bNot, pIf_eq, pCall, pFn, oLen,  dAt, dFld, dDic, oIsN, oNotN, isN, asB_bl, dI, dI2, gNm, gFld, gTup2, gKey, gIx, tTupE, tLstE, tLstM, tACons, tCallF, tMethF, tMakeF, tBin, tListM, tApp, tDic, tAll, tIfE, tAndB, tOrB, tTst, tB1, tNotB, setF, startD, oList, vAnd_eq, vOr_eq, vNot, dTru, tRng1, oAll, tUnE, tDead, bDead, sFldU, sNmU, pSl, oSome, oNone, oMin, oMax, asI, pCh_eq, cutD_mid, cutD_to, cutD_from, band15, band255, oInt_int,
 dLst_lst, dTup_tup, dLen_lst, dLen_tup, dSeq_lst, dSeq_tup, dSeq_scr, dIx_lst, dIx_tup, at0, at1, at2, at3, at4, at5, at6, at7, dEq_int, dEq_str, dEq_bl, dEq_nn, dEq_ni, dEq_in, dEq_ns, dEq_sn, dEq_is, dEq_si, dNe_int, dNe_str, dNe_ni, dNe_in, dAdd_int,
 isi_bool_non, isi_bool_bl, isi_bool_int, isi_bool_str, isi_bool_lst, isi_bool_tup, isi_bool_dic, isi_int_non, isi_int_bl, isi_int_int, isi_int_str, isi_int_lst, isi_int_tup, isi_int_dic, isi_str_non, isi_str_bl, isi_str_int, isi_str_str, isi_str_lst, isi_str_tup, isi_str_dic, isi_list_non, isi_list_bl, isi_list_int, isi_list_str, isi_list_lst, isi_list_tup, isi_list_dic, isi_tuple_non, isi_tuple_bl, isi_tuple_int, isi_tuple_str, isi_tuple_lst, isi_tuple_tup, isi_tuple_dic, isi_dict_non, isi_dict_bl, isi_dict_int, isi_dict_str, isi_dict_lst, isi_dict_tup, isi_dict_dic,
 List.map_cons, List.map_nil, List.replicate, List.cons_append, List.nil_append, List.append_nil, List.getElem?_cons_zero, List.getElem?_cons_succ, List.getElem?_nil, List.set_cons_zero, List.set_cons_succ, List.set_nil, List.length_cons, List.length_nil, Option.bind_some, Option.bind_none, Option.map_some, Option.map_none, Option.some.injEq, List.cons.injEq, and_true, true_and, and_assoc, exists_eq_left, exists_eq_left', exists_eq_right, exists_eq_right', exists_and_left, exists_const, if_true, if_false, Bool.false_eq_true, reduceCtorEq, put_same, put_put, Dt.int.injEq, Dt.bl.injEq, Dt.adr.injEq, Dt.tup.injEq, Dt.lst.injEq, Dt.str.injEq, decide_eq_true_eq, Bool.not_true, Bool.not_false, hS, cw, il, l1, l2, hv, e1, cx]
            refine ⟨o, _, n, rfl, hB, .inr (.inr rfl), r2, hg2, fun S' h1 h2 => ?_⟩
            simp [sSeq, sIf, sAsg, sRet, sExpr, sNext, sPar, sRaise, sRetN, sDead, ofP, ofB, ofL, pVar, pC, pOp, pUn, pB, pT, pTup, pLst, aNil, aCons, bAnd_eq, bOr_eq, bNot, pIf_eq, pCall, pFn, oLen,  dAt, dFld, dDic, oIsN, oNotN, isN, asB_bl, dI, dI2, gNm, gFld, gTup2, gKey, gIx, tTupE, tLstE, tLstM, tACons, tCallF, tMethF, tMakeF, tBin, tListM, tApp, tDic, tAll, tIfE, tAndB, tOrB, tTst, tB1, tNotB, setF, startD, oList, vAnd_eq, vOr_eq, vNot, dTru, tRng1, oAll, tUnE, tDead, bDead, sFldU, sNmU, pSl, oSome, oNone, oMin, oMax, asI, pCh_eq, cutD_mid, cutD_to, cutD_from, band15, band255, oInt_int,
 dLst_lst, dTup_tup, dLen_lst, dLen_tup, dSeq_lst, dSeq_tup, dSeq_scr, dIx_lst, dIx_tup, at0, at1, at2, at3, at4, at5, at6, at7, dEq_int, dEq_str, dEq_bl, dEq_nn, dEq_ni, dEq_in, dEq_ns, dEq_sn, dEq_is, dEq_si, dNe_int, dNe_str, dNe_ni, dNe_in, dAdd_int,
 isi_bool_non, isi_bool_bl, isi_bool_int, isi_bool_str, isi_bool_lst, isi_bool_tup, isi_bool_dic, isi_int_non, isi_int_bl, isi_int_int, isi_int_str, isi_int_lst, isi_int_tup, isi_int_dic, isi_str_non, isi_str_bl, isi_str_int, isi_str_str, isi_str_lst, isi_str_tup, isi_str_dic, isi_list_non, isi_list_bl, isi_list_int, isi_list_str, isi_list_lst, isi_list_tup, isi_list_dic, isi_tuple_non, isi_tuple_bl, isi_tuple_int, isi_tuple_str, isi_tuple_lst, isi_tuple_tup, isi_tuple_dic, isi_dict_non, isi_dict_bl, isi_dict_int, isi_dict_str, isi_dict_lst, isi_dict_tup, isi_dict_dic,
 List.map_cons, List.map_nil, List.replicate, List.cons_append, List.nil_append, List.append_nil, List.getElem?_cons_zero, List.getElem?_cons_succ, List.getElem?_nil, List.set_cons_zero, List.set_cons_succ, List.set_nil, List.length_cons, List.length_nil, Option.bind_some, Option.bind_none, Option.map_some, Option.map_none, Option.some.injEq, List.cons.injEq, and_true, true_and, and_assoc, exists_eq_left, exists_eq_left', exists_eq_right, exists_eq_right', exists_and_left, exists_const, if_true, if_false, Bool.false_eq_true, reduceCtorEq, put_same, put_put, Dt.int.injEq, Dt.bl.injEq, Dt.adr.injEq, Dt.tup.injEq, Dt.lst.injEq, Dt.str.injEq, decide_eq_true_eq, Bool.not_true, Bool.not_false, ra]
            exact fin _ _ h1 h2
        · simp only [c1, c0, if_false, ne_eq, not_false_eq_true, if_true] at hr
          cases hr
          have cp : 0 < w := by
            have : 0 ≤ v % 16 := Int.emod_nonneg _ (by decide)
            omega
          by_cases c2 : w = 2
          · have kk := k (S1.put o (.dic OK [il m1.data, .int m1.waits, .str "refused", .int m1.pos, .int m1.number, oD m1.left, .int m1.gap, .non, .int m1.now])) (by
              simp only [c2, if_true]
              exact ⟨put_same, (⟨wf.len, fun _ => ⟨rW, rS⟩⟩)⟩) fun b h1 => by rw [put_ne h1]; exact hf1 b h1
            simp [sSeq, sIf, sAsg, sRet, sExpr, sNext, sPar, sRaise, sRetN, sDead, ofP, ofB, ofL, pVar, pC, pOp, pUn, pB, pT, pTup, pLst, aNil, aCons, bAnd_eq, bOr_eq, bNot, pIf_eq, pCall, pFn, oLen,  dAt, dFld, dDic, oIsN, oNotN, isN, asB_bl, dI, dI2, gNm, gFld, gTup2, gKey, gIx, tTupE, tLstE, tLstM, tACons, tCallF, tMethF, tMakeF, tBin, tListM, tApp, tDic, tAll, tIfE, tAndB, tOrB, tTst, tB1, tNotB, setF, startD, oList, vAnd_eq, vOr_eq, vNot, dTru, tRng1, oAll, tUnE, tDead, bDead, sFldU, sNmU, pSl, oSome, oNone, oMin, oMax, asI, pCh_eq, cutD_mid, cutD_to, cutD_from, band15, band255, oInt_int,
 dLst_lst, dTup_tup, dLen_lst, dLen_tup, dSeq_lst, dSeq_tup, dSeq_scr, dIx_lst, dIx_tup, at0, at1, at2, at3, at4, at5, at6, at7, dEq_int, dEq_str, dEq_bl, dEq_nn, dEq_ni, dEq_in, dEq_ns, dEq_sn, dEq_is, dEq_si, dNe_int, dNe_str, dNe_ni, dNe_in, dAdd_int,
 isi_bool_non, isi_bool_bl, isi_bool_int, isi_bool_str, isi_bool_lst, isi_bool_tup, isi_bool_dic, isi_int_non, isi_int_bl, isi_int_int, isi_int_str, isi_int_lst, isi_int_tup, isi_int_dic, isi_str_non, isi_str_bl, isi_str_int, isi_str_str, isi_str_lst, isi_str_tup, isi_str_dic, isi_list_non, isi_list_bl, isi_list_int, isi_list_str, isi_list_lst, isi_list_tup, isi_list_dic, isi_tuple_non, isi_tuple_bl, isi_tuple_int, isi_tuple_str, isi_tuple_lst, isi_tuple_tup, isi_tuple_dic, isi_dict_non, isi_dict_bl, isi_dict_int, isi_dict_str, isi_dict_lst, isi_dict_tup, isi_dict_dic,
 List.map_cons, List.map_nil, List.replicate, List.cons_append, List.nil_append, List.append_nil, List.getElem?_cons_zero, List.getElem?_cons_succ, List.getElem?_nil, List.set_cons_zero, List.set_cons_succ, List.set_nil, List.length_cons, List.length_nil, Option.bind_some, Option.bind_none, Option.map_some, Option.map_none, Option.some.injEq, List.cons.injEq, and_true, true_and, and_assoc, exists_eq_left, exists_eq_left', exists_eq_right, exists_eq_right', exists_and_left, exists_const, if_true, if_false, Bool.false_eq_true, reduceCtorEq, put_same, put_put, Dt.int.injEq, Dt.bl.injEq, Dt.adr.injEq, Dt.tup.injEq, Dt.lst.injEq, Dt.str.injEq, decide_eq_true_eq, Bool.not_true, Bool.not_false, hS, cw, il, l1, l2, hv, e1, c1, c0, c2, cp]
            exact kk
          · have kk := k (S1.put o (.dic OK [il m1.data, .int m1.waits, .str "wrong", .int m1.pos, .int m1.number, oD m1.left, .int m1.gap, .non, .int m1.now])) (by
              simp only [c2, if_false]
              exact ⟨put_same, (⟨wf.len, fun _ => ⟨wW, wS⟩⟩)⟩) fun b h1 => by rw [put_ne h1]; exact hf1 b h1
            simp [sSeq, sIf, sAsg, sRet, sExpr, sNext, sPar, sRaise, sRetN, sDead, ofP, ofB, ofL, pVar, pC, pOp, pUn, pB, pT, pTup, pLst, aNil, aCons, bAnd_eq, bOr_eq, bNot, pIf_eq, pCall, pFn, oLen,  dAt, dFld, dDic, oIsN, oNotN, isN, asB_bl, dI, dI2, gNm, gFld, gTup2, gKey, gIx, tTupE, tLstE, tLstM, tACons, tCallF, tMethF, tMakeF, tBin, tListM, tApp, tDic, tAll, tIfE, tAndB, tOrB, tTst, tB1, tNotB, setF, startD, oList, vAnd_eq, vOr_eq, vNot, dTru, tRng1, oAll, tUnE, tDead, bDead, sFldU, sNmU, pSl, oSome, oNone, oMin, oMax, asI, pCh_eq, cutD_mid, cutD_to, cutD_from, band15, band255, oInt_int,
 dLst_lst, dTup_tup, dLen_lst, dLen_tup, dSeq_lst, dSeq_tup, dSeq_scr, dIx_lst, dIx_tup, at0, at1, at2, at3, at4, at5, at6, at7, dEq_int, dEq_str, dEq_bl, dEq_nn, dEq_ni, dEq_in, dEq_ns, dEq_sn, dEq_is, dEq_si, dNe_int, dNe_str, dNe_ni, dNe_in, dAdd_int,
 isi_bool_non, isi_bool_bl, isi_bool_int, isi_bool_str, isi_bool_lst, isi_bool_tup, isi_bool_dic, isi_int_non, isi_int_bl, isi_int_int, isi_int_str, isi_int_lst, isi_int_tup, isi_int_dic, isi_str_non, isi_str_bl, isi_str_int, isi_str_str, isi_str_lst, isi_str_tup, isi_str_dic, isi_list_non, isi_list_bl, isi_list_int, isi_list_str, isi_list_lst, isi_list_tup, isi_list_dic, isi_tuple_non, isi_tuple_bl, isi_tuple_int, isi_tuple_str, isi_tuple_lst, isi_tuple_tup, isi_tuple_dic, isi_dict_non, isi_dict_bl, isi_dict_int, isi_dict_str, isi_dict_lst, isi_dict_tup, isi_dict_dic,
 List.map_cons, List.map_nil, List.replicate, List.cons_append, List.nil_append, List.append_nil, List.getElem?_cons_zero, List.getElem?_cons_succ, List.getElem?_nil, List.set_cons_zero, List.set_cons_succ, List.set_nil, List.length_cons, List.length_nil, Option.bind_some, Option.bind_none, Option.map_some, Option.map_none, Option.some.injEq, List.cons.injEq, and_true, true_and, and_assoc, exists_eq_left, exists_eq_left', exists_eq_right, exists_eq_right', exists_and_left, exists_const, if_true, if_false, Bool.false_eq_true, reduceCtorEq, put_same, put_put, Dt.int.injEq, Dt.bl.injEq, Dt.adr.injEq, Dt.tup.injEq, Dt.lst.injEq, Dt.str.injEq, decide_eq_true_eq, Bool.not_true, Bool.not_false, hS, cw, il, l1, l2, hv, e1, c1, c0, c2, cp]
            exact kk
  · simp only [hearM, cw, ne_eq, not_false_eq_true, if_true] at hr
    cases hr
    have kk := k _ hA1 hf1
    simp [sSeq, sIf, sAsg, sRet, sExpr, sNext, sPar, sRaise, sRetN, sDead, ofP, ofB, ofL, pVar, pC, pOp, pUn, pB, pT, pTup, pLst, aNil, aCons, bAnd_eq, bOr_eq, bNot, pIf_eq, pCall, pFn, oLen,  dAt, dFld, dDic, oIsN, oNotN, isN, asB_bl, dI, dI2, gNm, gFld, gTup2, gKey, gIx, tTupE, tLstE, tLstM, tACons, tCallF, tMethF, tMakeF, tBin, tListM, tApp, tDic, tAll, tIfE, tAndB, tOrB, tTst, tB1, tNotB, setF, startD, oList, vAnd_eq, vOr_eq, vNot, dTru, tRng1, oAll, tUnE, tDead, bDead, sFldU, sNmU, pSl, oSome, oNone, oMin, oMax, asI, pCh_eq, cutD_mid, cutD_to, cutD_from, band15, band255, oInt_int,
 dLst_lst, dTup_tup, dLen_lst, dLen_tup, dSeq_lst, dSeq_tup, dSeq_scr, dIx_lst, dIx_tup, at0, at1, at2, at3, at4, at5, at6, at7, dEq_int, dEq_str, dEq_bl, dEq_nn, dEq_ni, dEq_in, dEq_ns, dEq_sn, dEq_is, dEq_si, dNe_int, dNe_str, dNe_ni, dNe_in, dAdd_int,
 isi_bool_non, isi_bool_bl, isi_bool_int, isi_bool_str, isi_bool_lst, isi_bool_tup, isi_bool_dic, isi_int_non, isi_int_bl, isi_int_int, isi_int_str, isi_int_lst, isi_int_tup, isi_int_dic, isi_str_non, isi_str_bl, isi_str_int, isi_str_str, isi_str_lst, isi_str_tup, isi_str_dic, isi_list_non, isi_list_bl, isi_list_int, isi_list_str, isi_list_lst, isi_list_tup, isi_list_dic, isi_tuple_non, isi_tuple_bl, isi_tuple_int, isi_tuple_str, isi_tuple_lst, isi_tuple_tup, isi_tuple_dic, isi_dict_non, isi_dict_bl, isi_dict_int, isi_dict_str, isi_dict_lst, isi_dict_tup, isi_dict_dic,
 List.map_cons, List.map_nil, List.replicate, List.cons_append, List.nil_append, List.append_nil, List.getElem?_cons_zero, List.getElem?_cons_succ, List.getElem?_nil, List.set_cons_zero, List.set_cons_succ, List.set_nil, List.length_cons, List.length_nil, Option.bind_some, Option.bind_none, Option.map_some, Option.map_none, Option.some.injEq, List.cons.injEq, and_true, true_and, and_assoc, exists_eq_left, exists_eq_left', exists_eq_right, exists_eq_right', exists_and_left, exists_const, if_true, if_false, Bool.false_eq_true, reduceCtorEq, put_same, put_put, Dt.int.injEq, Dt.bl.injEq, Dt.adr.injEq, Dt.tup.injEq, Dt.lst.injEq, Dt.str.injEq, decide_eq_true_eq, Bool.not_true, Bool.not_false, hS, cw]
    exact kk
end K47
set_option maxRecDepth 100000
set_option maxHeartbeats 4000000
namespace K47
open PySem PySem.Spec PyProof.Rows L2 Ax
abbrev sts : List Str := ["waiting", "sending", "done", "late", "tired", "refused", "wrong"]
structure Good (m : M) : Prop where
  wf : WF m
  lv : Live m
  st : m.state ∈ sts
def ROk (f : List (Int × List Int)) : Prop := ∀ r ∈ f, r.2.length ≤ 100
theorem Good.stop {m : M} (h : Good m) {st : Str} (h1 : st ≠ "waiting") (h2 : st ≠ "sending") (h3 : st ∈ sts) : Good (stop m st) := ⟨h.wf.stop h1 h2, .inl rfl, h3⟩
theorem Good.send {m : M} (h : Good m) {t : Int} (hs : m.state = "sending") : Good (sendM m t).1 := by
  refine ⟨h.wf.send, h.lv.send hs, ?_⟩
  have := h.st
  unfold sendM
  simp only
  split
  · simp [K47.stop]
  · split
    · simp
    · exact this
theorem send_rok {m : M} {t : Int} : ROk (sendM m t).2 := by
  intro r hr
  simp only [sendM, List.mem_singleton] at hr
  subst hr
  simp
  omega
theorem onM_good : ∀ {k : Nat} {t : Int} {m : M} {f : List (Int × List Int)} {r : M × List (Int × List Int)}, onM k t m f = some r → Good m → ROk f → Good r.1 ∧ ROk r.2
  | 0, _, _, _, _, h, _, _ => by simp [onM] at h
  | k + 1, t, m, f, r, h, g, q => by
    rw [onM] at h
    split at h
    · cases h
      exact ⟨g, q⟩
    · rename_i b hb
      split at h
      · split at h
        · exact onM_good h (g.stop lW lS (by decide +kernel)) q
        · rename_i hw
          refine onM_good h (g.send (live_of g.lv hb hw)) fun r hr => ?_
          rcases List.mem_append.mp hr with hr | hr
          · exact q r hr
          · exact send_rok r hr
      · cases h
        exact ⟨g, q⟩
def meas (m : M) : Nat := match m.bell with
  | none => 0
  | some _ => if m.state = "waiting" then 1 else 2 + (m.data.length - m.pos)
theorem meas_send {m : M} {t b : Int} (hb : m.bell = some b) (hw : ¬ m.state = "waiting") : meas (sendM m t).1 < meas m := by
  have e : meas m = 2 + (m.data.length - m.pos) := by
    unfold meas
    rw [hb]
    simp only [hw, if_false]
  rw [e]
  unfold sendM
  simp only
  split
  · show meas (K47.stop _ _) < _
    simp only [meas, stop]
    omega
  · rename_i hp
    split
    · simp only [meas, if_true]
      omega
    · simp only [meas, hw, if_false]
      simp only [ge_iff_le, Nat.not_le] at hp
      omega
theorem onM_some : ∀ {k : Nat} {t : Int} {m : M} {f : List (Int × List Int)}, meas m < k → ∃ r, onM k t m f = some r
  | 0, _, _, _, h => by omega
  | k + 1, t, m, f, h => by
    rw [onM]
    cases hb : m.bell with
    | none => exact ⟨_, rfl⟩
    | some b =>
      simp only
      by_cases c : b ≤ t
      · rw [if_pos c]
        by_cases hw : m.state = "waiting"
        · rw [if_pos hw]
          refine onM_some ?_
          have : meas m = 1 := by
            unfold meas
            rw [hb]
            simp only [hw, if_true]
          show 0 < k
          omega
        · rw [if_neg hw]
          have := meas_send (t := b) hb hw
          exact onM_some (by omega)
      · rw [if_neg c]
        exact ⟨_, rfl⟩
theorem goM_some {m : M} {t : Int} (h : WF m) : ∃ r, goM m t = some r := by
  refine onM_some ?_
  have := h.len
  unfold meas
  split
  · omega
  · split
    · omega
    · simp only at *
      omega
theorem goM_good {m : M} {t : Int} {r : M × List (Int × List Int)} (h : goM m t = some r) (g : Good m) : Good r.1 ∧ ROk r.2 ∧ r.2.length ≤ 400 ∧ r.1.now = t := by
  have g' : Good { m with now := t } := ⟨⟨g.wf.len, g.wf.sw⟩, g.lv, g.st⟩
  obtain ⟨h1, h2⟩ := onM_good h g' (fun r hr => by cases hr)
  obtain ⟨q1, q2, q3⟩ := goM_ok h g.lv
  exact ⟨h1, h2, q3, q1⟩
theorem getM_good {m : M} {t : Int} {oct : List Int} (g : Good m) : ∃ r, getM m t oct = some r ∧ Good r.1 ∧ ROk r.2 ∧ r.2.length ≤ 800 ∧ r.1.now = t := by
  obtain ⟨r1, h1⟩ := goM_some (t := t) g.wf
  obtain ⟨a1, a2, a3, a4⟩ := goM_good h1 g
  unfold getM
  rw [h1, Option.bind_some]
  obtain ⟨m1, f1⟩ := r1
  have l4 : f1.length ≤ 400 := a3
  have l8 : f1.length ≤ 800 := by omega
  unfold hearM
  by_cases hst : m1.state = "waiting"
  · simp only [hst, ne_eq, not_true, if_false]
    split
    · exact ⟨_, rfl, a1, a2, l8, a4⟩
    · rename_i w x y _
      split
      · split
        · exact ⟨_, rfl, (⟨⟨a1.wf.len, fun _ => ⟨tW, tS⟩⟩, .inl rfl, by simp [stop]⟩), a2, l8, a4⟩
        · exact ⟨_, rfl, (⟨⟨a1.wf.len, fun z => by simp at z⟩, .inr (.inl rfl), by simp⟩), a2, l8, a4⟩
      · split
        · refine ⟨_, rfl, ?_, a2, l8, a4⟩
          by_cases c2 : w = 2
          · simp only [c2, if_true]
            exact a1.stop rW rS (by decide +kernel)
          · simp only [c2, if_false]
            exact a1.stop wW wS (by decide +kernel)
        · have g2 : Good { m1 with state := "sending", left := if x > 0 then some x else none, gap := clip y, bell := some t } := ⟨⟨a1.wf.len, fun z => by simp at z⟩, .inr (.inr rfl), by simp⟩
          obtain ⟨r2, h2⟩ := goM_some (t := t) g2.wf
          obtain ⟨b1, b2, b3, b4⟩ := goM_good h2 g2
          rw [h2]
          refine ⟨_, rfl, b1, fun r hr => ?_, ?_, b4⟩
          · rcases List.mem_append.mp hr with hr | hr
            · exact a2 r hr
            · exact b2 r hr
          · show (f1 ++ r2.2).length ≤ 800
            rw [List.length_append]
            omega
  · simp only [hst, ne_eq, not_false_eq_true, if_true]
    exact ⟨_, rfl, a1, a2, l8, a4⟩
theorem len__law_called (A : Ad) : ∀ ds S Φ Ψ, sp__law_called A ds S Φ Ψ → ds.length = 4 := fun ds S Φ Ψ ⟨_, _, _, _, _, _, _, e, _⟩ => by rw [e]; rfl
theorem law__law_called (A : Ad) : ∀ ds S Φ Ψ, sp__law_called A ds S Φ Ψ → T__law_called A (LE0 Φ Ψ) (startD 1 ds) S := by
  rintro ds S Φ Ψ ⟨a, c, m, w, d, oct, n, rfl, hw, hA, lv, hg, r, hr, k⟩
  obtain ⟨p, hS, hp⟩ := hA.1
  have n1 : ¬ (("go" : Str) = "get") := by decide
  have n2 : ¬ (("begin" : Str) = "get") := by decide
  have n3 : ¬ (("go" : Str) = "begin") := by decide
  have k0 : n < m.now → Φ (.tup [.str "wrong", .int n]) S := fun cn => by
    simp only [calledM, cn, if_true] at hr
    cases hr
    exact k S hA (fun _ _ _ => rfl)
  rcases List.mem_cons.mp hw with rfl | hw
  · obtain ⟨rfl, ho, hol, htd⟩ := hg rfl
    simp [sSeq, sIf, sAsg, sRet, sExpr, sNext, sPar, sRaise, sRetN, sDead, ofP, ofB, ofL, pVar, pC, pOp, pUn, pB, pT, pTup, pLst, aNil, aCons, bAnd_eq, bOr_eq, bNot, pIf_eq, pCall, pFn, oLen,  dAt, dFld, dDic, oIsN, oNotN, isN, asB_bl, dI, dI2, gNm, gFld, gTup2, gKey, gIx, tTupE, tLstE, tLstM, tACons, tCallF, tMethF, tMakeF, tBin, tListM, tApp, tDic, tAll, tIfE, tAndB, tOrB, tTst, tB1, tNotB, setF, startD, oList, vAnd_eq, vOr_eq, vNot, dTru, tRng1, oAll, tUnE, tDead, bDead, sFldU, sNmU, pSl, oSome, oNone, oMin, oMax, asI, pCh_eq, cutD_mid, cutD_to, cutD_from, band15, band255, oInt_int,
 dLst_lst, dTup_tup, dLen_lst, dLen_tup, dSeq_lst, dSeq_tup, dSeq_scr, dIx_lst, dIx_tup, at0, at1, at2, at3, at4, at5, at6, at7, dEq_int, dEq_str, dEq_bl, dEq_nn, dEq_ni, dEq_in, dEq_ns, dEq_sn, dEq_is, dEq_si, dNe_int, dNe_str, dNe_ni, dNe_in, dAdd_int,
 isi_bool_non, isi_bool_bl, isi_bool_int, isi_bool_str, isi_bool_lst, isi_bool_tup, isi_bool_dic, isi_int_non, isi_int_bl, isi_int_int, isi_int_str, isi_int_lst, isi_int_tup, isi_int_dic, isi_str_non, isi_str_bl, isi_str_int, isi_str_str, isi_str_lst, isi_str_tup, isi_str_dic, isi_list_non, isi_list_bl, isi_list_int, isi_list_str, isi_list_lst, isi_list_tup, isi_list_dic, isi_tuple_non, isi_tuple_bl, isi_tuple_int, isi_tuple_str, isi_tuple_lst, isi_tuple_tup, isi_tuple_dic, isi_dict_non, isi_dict_bl, isi_dict_int, isi_dict_str, isi_dict_lst, isi_dict_tup, isi_dict_dic,
 List.map_cons, List.map_nil, List.replicate, List.cons_append, List.nil_append, List.append_nil, List.getElem?_cons_zero, List.getElem?_cons_succ, List.getElem?_nil, List.set_cons_zero, List.set_cons_succ, List.set_nil, List.length_cons, List.length_nil, Option.bind_some, Option.bind_none, Option.map_some, Option.map_none, Option.some.injEq, List.cons.injEq, and_true, true_and, and_assoc, exists_eq_left, exists_eq_left', exists_eq_right, exists_eq_right', exists_and_left, exists_const, if_true, if_false, Bool.false_eq_true, reduceCtorEq, put_same, put_put, Dt.int.injEq, Dt.bl.injEq, Dt.adr.injEq, Dt.tup.injEq, Dt.lst.injEq, Dt.str.injEq, decide_eq_true_eq, Bool.not_true, Bool.not_false, sTryAs, Ad.M_DeedWrong, Ad.xs_DeedWrong, pXf, T__law_called, hS]
    refine ⟨a, c, m, oct, n, rfl, hA, lv, fun cn => ?_, ho, hol, htd, fun cn => ?_⟩
    · simp [xE, look_at]
      exact k0 cn
    · simp only [calledM, cn, if_false, if_true] at hr
      cases hgm : getM m n oct with
      | none =>
        rw [hgm] at hr
        cases hr
      | some r1 =>
        rw [hgm] at hr
        cases hr
        exact ⟨r1, rfl, fun S' h1 h2 => k S' h1 h2⟩
  rcases List.mem_cons.mp hw with rfl | hw
  · simp [sSeq, sIf, sAsg, sRet, sExpr, sNext, sPar, sRaise, sRetN, sDead, ofP, ofB, ofL, pVar, pC, pOp, pUn, pB, pT, pTup, pLst, aNil, aCons, bAnd_eq, bOr_eq, bNot, pIf_eq, pCall, pFn, oLen,  dAt, dFld, dDic, oIsN, oNotN, isN, asB_bl, dI, dI2, gNm, gFld, gTup2, gKey, gIx, tTupE, tLstE, tLstM, tACons, tCallF, tMethF, tMakeF, tBin, tListM, tApp, tDic, tAll, tIfE, tAndB, tOrB, tTst, tB1, tNotB, setF, startD, oList, vAnd_eq, vOr_eq, vNot, dTru, tRng1, oAll, tUnE, tDead, bDead, sFldU, sNmU, pSl, oSome, oNone, oMin, oMax, asI, pCh_eq, cutD_mid, cutD_to, cutD_from, band15, band255, oInt_int,
 dLst_lst, dTup_tup, dLen_lst, dLen_tup, dSeq_lst, dSeq_tup, dSeq_scr, dIx_lst, dIx_tup, at0, at1, at2, at3, at4, at5, at6, at7, dEq_int, dEq_str, dEq_bl, dEq_nn, dEq_ni, dEq_in, dEq_ns, dEq_sn, dEq_is, dEq_si, dNe_int, dNe_str, dNe_ni, dNe_in, dAdd_int,
 isi_bool_non, isi_bool_bl, isi_bool_int, isi_bool_str, isi_bool_lst, isi_bool_tup, isi_bool_dic, isi_int_non, isi_int_bl, isi_int_int, isi_int_str, isi_int_lst, isi_int_tup, isi_int_dic, isi_str_non, isi_str_bl, isi_str_int, isi_str_str, isi_str_lst, isi_str_tup, isi_str_dic, isi_list_non, isi_list_bl, isi_list_int, isi_list_str, isi_list_lst, isi_list_tup, isi_list_dic, isi_tuple_non, isi_tuple_bl, isi_tuple_int, isi_tuple_str, isi_tuple_lst, isi_tuple_tup, isi_tuple_dic, isi_dict_non, isi_dict_bl, isi_dict_int, isi_dict_str, isi_dict_lst, isi_dict_tup, isi_dict_dic,
 List.map_cons, List.map_nil, List.replicate, List.cons_append, List.nil_append, List.append_nil, List.getElem?_cons_zero, List.getElem?_cons_succ, List.getElem?_nil, List.set_cons_zero, List.set_cons_succ, List.set_nil, List.length_cons, List.length_nil, Option.bind_some, Option.bind_none, Option.map_some, Option.map_none, Option.some.injEq, List.cons.injEq, and_true, true_and, and_assoc, exists_eq_left, exists_eq_left', exists_eq_right, exists_eq_right', exists_and_left, exists_const, if_true, if_false, Bool.false_eq_true, reduceCtorEq, put_same, put_put, Dt.int.injEq, Dt.bl.injEq, Dt.adr.injEq, Dt.tup.injEq, Dt.lst.injEq, Dt.str.injEq, decide_eq_true_eq, Bool.not_true, Bool.not_false, sTryAs, Ad.M_DeedWrong, Ad.xs_DeedWrong, pXf, T__law_called, hS, n1]
    refine ⟨a, c, m, n, rfl, hA, lv, fun cn => ?_, fun cn => ?_⟩
    · simp [xE, look_at]
      exact k0 cn
    · simp only [calledM, cn, if_false, n1, n3] at hr
      cases hgm : goM m n with
      | none =>
        rw [hgm] at hr
        cases hr
      | some r1 =>
        rw [hgm] at hr
        cases hr
        exact ⟨r1, rfl, fun S' h1 h2 => k S' h1 h2⟩
  rcases List.mem_cons.mp hw with rfl | hw
  · simp [sSeq, sIf, sAsg, sRet, sExpr, sNext, sPar, sRaise, sRetN, sDead, ofP, ofB, ofL, pVar, pC, pOp, pUn, pB, pT, pTup, pLst, aNil, aCons, bAnd_eq, bOr_eq, bNot, pIf_eq, pCall, pFn, oLen,  dAt, dFld, dDic, oIsN, oNotN, isN, asB_bl, dI, dI2, gNm, gFld, gTup2, gKey, gIx, tTupE, tLstE, tLstM, tACons, tCallF, tMethF, tMakeF, tBin, tListM, tApp, tDic, tAll, tIfE, tAndB, tOrB, tTst, tB1, tNotB, setF, startD, oList, vAnd_eq, vOr_eq, vNot, dTru, tRng1, oAll, tUnE, tDead, bDead, sFldU, sNmU, pSl, oSome, oNone, oMin, oMax, asI, pCh_eq, cutD_mid, cutD_to, cutD_from, band15, band255, oInt_int,
 dLst_lst, dTup_tup, dLen_lst, dLen_tup, dSeq_lst, dSeq_tup, dSeq_scr, dIx_lst, dIx_tup, at0, at1, at2, at3, at4, at5, at6, at7, dEq_int, dEq_str, dEq_bl, dEq_nn, dEq_ni, dEq_in, dEq_ns, dEq_sn, dEq_is, dEq_si, dNe_int, dNe_str, dNe_ni, dNe_in, dAdd_int,
 isi_bool_non, isi_bool_bl, isi_bool_int, isi_bool_str, isi_bool_lst, isi_bool_tup, isi_bool_dic, isi_int_non, isi_int_bl, isi_int_int, isi_int_str, isi_int_lst, isi_int_tup, isi_int_dic, isi_str_non, isi_str_bl, isi_str_int, isi_str_str, isi_str_lst, isi_str_tup, isi_str_dic, isi_list_non, isi_list_bl, isi_list_int, isi_list_str, isi_list_lst, isi_list_tup, isi_list_dic, isi_tuple_non, isi_tuple_bl, isi_tuple_int, isi_tuple_str, isi_tuple_lst, isi_tuple_tup, isi_tuple_dic, isi_dict_non, isi_dict_bl, isi_dict_int, isi_dict_str, isi_dict_lst, isi_dict_tup, isi_dict_dic,
 List.map_cons, List.map_nil, List.replicate, List.cons_append, List.nil_append, List.append_nil, List.getElem?_cons_zero, List.getElem?_cons_succ, List.getElem?_nil, List.set_cons_zero, List.set_cons_succ, List.set_nil, List.length_cons, List.length_nil, Option.bind_some, Option.bind_none, Option.map_some, Option.map_none, Option.some.injEq, List.cons.injEq, and_true, true_and, and_assoc, exists_eq_left, exists_eq_left', exists_eq_right, exists_eq_right', exists_and_left, exists_const, if_true, if_false, Bool.false_eq_true, reduceCtorEq, put_same, put_put, Dt.int.injEq, Dt.bl.injEq, Dt.adr.injEq, Dt.tup.injEq, Dt.lst.injEq, Dt.str.injEq, decide_eq_true_eq, Bool.not_true, Bool.not_false, sTryAs, Ad.M_DeedWrong, Ad.xs_DeedWrong, pXf, T__law_called, hS, n2]
    refine ⟨a, c, m, n, rfl, hA, fun cn => ?_, fun cn cs S' h1 h2 => ?_, fun cn cs S' h1 h2 => ?_⟩
    · simp [xE, look_at]
      exact k0 cn
    · simp only [calledM, cn, if_false, n2, cs, if_true] at hr
      cases hr
      simp [xE, look_at]
      exact k S' h1 h2
    · simp only [calledM, cn, if_false, n2, cs, if_true] at hr
      cases hr
      exact k S' h1 h2
  · cases hw
theorem len__law_made (A : Ad) : ∀ ds S Φ Ψ, sp__law_made A ds S Φ Ψ → ds.length = 1 := fun ds S Φ Ψ ⟨_, _, e, _⟩ => by rw [e]; rfl
theorem law__law_made (A : Ad) : ∀ ds S Φ Ψ, sp__law_made A ds S Φ Ψ → T__law_made A (LE0 Φ Ψ) (startD 1 ds) S := by
  rintro ds S Φ Ψ ⟨d, ds, rfl, hd, hl, k⟩
  simp [sSeq, sIf, sAsg, sRet, sExpr, sNext, sPar, sRaise, sRetN, sDead, ofP, ofB, ofL, pVar, pC, pOp, pUn, pB, pT, pTup, pLst, aNil, aCons, bAnd_eq, bOr_eq, bNot, pIf_eq, pCall, pFn, oLen,  dAt, dFld, dDic, oIsN, oNotN, isN, asB_bl, dI, dI2, gNm, gFld, gTup2, gKey, gIx, tTupE, tLstE, tLstM, tACons, tCallF, tMethF, tMakeF, tBin, tListM, tApp, tDic, tAll, tIfE, tAndB, tOrB, tTst, tB1, tNotB, setF, startD, oList, vAnd_eq, vOr_eq, vNot, dTru, tRng1, oAll, tUnE, tDead, bDead, sFldU, sNmU, pSl, oSome, oNone, oMin, oMax, asI, pCh_eq, cutD_mid, cutD_to, cutD_from, band15, band255, oInt_int,
 dLst_lst, dTup_tup, dLen_lst, dLen_tup, dSeq_lst, dSeq_tup, dSeq_scr, dIx_lst, dIx_tup, at0, at1, at2, at3, at4, at5, at6, at7, dEq_int, dEq_str, dEq_bl, dEq_nn, dEq_ni, dEq_in, dEq_ns, dEq_sn, dEq_is, dEq_si, dNe_int, dNe_str, dNe_ni, dNe_in, dAdd_int,
 isi_bool_non, isi_bool_bl, isi_bool_int, isi_bool_str, isi_bool_lst, isi_bool_tup, isi_bool_dic, isi_int_non, isi_int_bl, isi_int_int, isi_int_str, isi_int_lst, isi_int_tup, isi_int_dic, isi_str_non, isi_str_bl, isi_str_int, isi_str_str, isi_str_lst, isi_str_tup, isi_str_dic, isi_list_non, isi_list_bl, isi_list_int, isi_list_str, isi_list_lst, isi_list_tup, isi_list_dic, isi_tuple_non, isi_tuple_bl, isi_tuple_int, isi_tuple_str, isi_tuple_lst, isi_tuple_tup, isi_tuple_dic, isi_dict_non, isi_dict_bl, isi_dict_int, isi_dict_str, isi_dict_lst, isi_dict_tup, isi_dict_dic,
 List.map_cons, List.map_nil, List.replicate, List.cons_append, List.nil_append, List.append_nil, List.getElem?_cons_zero, List.getElem?_cons_succ, List.getElem?_nil, List.set_cons_zero, List.set_cons_succ, List.set_nil, List.length_cons, List.length_nil, Option.bind_some, Option.bind_none, Option.map_some, Option.map_none, Option.some.injEq, List.cons.injEq, and_true, true_and, and_assoc, exists_eq_left, exists_eq_left', exists_eq_right, exists_eq_right', exists_and_left, exists_const, if_true, if_false, Bool.false_eq_true, reduceCtorEq, put_same, put_put, Dt.int.injEq, Dt.bl.injEq, Dt.adr.injEq, Dt.tup.injEq, Dt.lst.injEq, Dt.str.injEq, decide_eq_true_eq, Bool.not_true, Bool.not_false, sTryAs, Ad.M_Wrong, Ad.xs_Wrong, pXf, T__law_made]
  intro a ha
  have hd2 : dLst (S.put a (.ins A.k_Sender [])) d = some ds := by
    cases d with
    | adr b =>
      have nb : b ≠ a := fun e => by
        subst e
        simp [dLst, ha] at hd
      simp only [dLst] at hd ⊢
      rw [put_ne nb]
      exact hd
    | _ => exact hd
  refine ⟨a, d, ds, 1, rfl, put_same, hd2, hl, fun cn => ?_, fun cn c S' hc h1 h2 h3 h4 => ?_⟩
  · have kk := k (S.put a (.ins A.k_Sender [])) fun b m hb => put_ne fun z => by
      rw [z, ha] at hb
      cases hb
    rw [if_neg cn] at kk
    simp [xE, look_at]
    exact kk
  · have kk := k S' fun b m hb => by
      have b1 : b ≠ a := fun z => by
        rw [z, ha] at hb
        cases hb
      have b2 : b ≠ c := fun z => by
        rw [z] at hb
        rw [put_ne h3, hb] at hc
        cases hc
      rw [h4 b b1 b2, put_ne b1]
    rw [if_pos cn] at kk
    exact ⟨rfl, kk⟩
theorem len__law_flow (A : Ad) : ∀ ds S Φ Ψ, sp__law_flow A ds S Φ Ψ → ds.length = 1 := fun ds S Φ Ψ ⟨_, e, _⟩ => by rw [e]; rfl
theorem law__law_flow (A : Ad) : ∀ ds S Φ Ψ, sp__law_flow A ds S Φ Ψ → T__law_flow A (LE0 Φ Ψ) (startD 2 ds) S := by
  rintro ds S Φ Ψ ⟨a, rfl, hD, k⟩
  unfold T__law_flow
  refine seqI (fun ds' S' => ∃ w : Int, 0 ≤ w ∧ w ≤ 15 ∧ ds' = [some (.adr a), some (.int w), none] ∧ DrAt S' a ∧ Fr S S' a) ?_ ?_
  case refine_2 =>
    intro Q hQ
    simp [sSeq, sIf, sAsg, sRet, sExpr, sNext, sPar, sRaise, sRetN, sDead, ofP, ofB, ofL, pVar, pC, pOp, pUn, pB, pT, pTup, pLst, aNil, aCons, bAnd_eq, bOr_eq, bNot, pIf_eq, pCall, pFn, oLen,  dAt, dFld, dDic, oIsN, oNotN, isN, asB_bl, dI, dI2, gNm, gFld, gTup2, gKey, gIx, tTupE, tLstE, tLstM, tACons, tCallF, tMethF, tMakeF, tBin, tListM, tApp, tDic, tAll, tIfE, tAndB, tOrB, tTst, tB1, tNotB, setF, startD, oList, vAnd_eq, vOr_eq, vNot, dTru, tRng1, oAll, tUnE, tDead, bDead, sFldU, sNmU, pSl, oSome, oNone, oMin, oMax, asI, pCh_eq, cutD_mid, cutD_to, cutD_from, band15, band255, oInt_int,
 dLst_lst, dTup_tup, dLen_lst, dLen_tup, dSeq_lst, dSeq_tup, dSeq_scr, dIx_lst, dIx_tup, at0, at1, at2, at3, at4, at5, at6, at7, dEq_int, dEq_str, dEq_bl, dEq_nn, dEq_ni, dEq_in, dEq_ns, dEq_sn, dEq_is, dEq_si, dNe_int, dNe_str, dNe_ni, dNe_in, dAdd_int,
 isi_bool_non, isi_bool_bl, isi_bool_int, isi_bool_str, isi_bool_lst, isi_bool_tup, isi_bool_dic, isi_int_non, isi_int_bl, isi_int_int, isi_int_str, isi_int_lst, isi_int_tup, isi_int_dic, isi_str_non, isi_str_bl, isi_str_int, isi_str_str, isi_str_lst, isi_str_tup, isi_str_dic, isi_list_non, isi_list_bl, isi_list_int, isi_list_str, isi_list_lst, isi_list_tup, isi_list_dic, isi_tuple_non, isi_tuple_bl, isi_tuple_int, isi_tuple_str, isi_tuple_lst, isi_tuple_tup, isi_tuple_dic, isi_dict_non, isi_dict_bl, isi_dict_int, isi_dict_str, isi_dict_lst, isi_dict_tup, isi_dict_dic,
 List.map_cons, List.map_nil, List.replicate, List.cons_append, List.nil_append, List.append_nil, List.getElem?_cons_zero, List.getElem?_cons_succ, List.getElem?_nil, List.set_cons_zero, List.set_cons_succ, List.set_nil, List.length_cons, List.length_nil, Option.bind_some, Option.bind_none, Option.map_some, Option.map_none, Option.some.injEq, List.cons.injEq, and_true, true_and, and_assoc, exists_eq_left, exists_eq_left', exists_eq_right, exists_eq_right', exists_and_left, exists_const, if_true, if_false, Bool.false_eq_true, reduceCtorEq, put_same, put_put, Dt.int.injEq, Dt.bl.injEq, Dt.adr.injEq, Dt.tup.injEq, Dt.lst.injEq, Dt.str.injEq, decide_eq_true_eq, Bool.not_true, Bool.not_false]
    refine ⟨a, 9, rfl, hD, by omega, by omega, fun v S1 v0 v1 h1 f1 => ?_⟩
    have : v = 0 ∨ v = 1 ∨ v = 2 ∨ v = 3 ∨ v = 4 ∨ v = 5 ∨ v = 6 ∨ v = 7 ∨ v = 8 := by omega
    rcases this with rfl | rfl | rfl | rfl | rfl | rfl | rfl | rfl | rfl
    all_goals
      simp [sSeq, sIf, sAsg, sRet, sExpr, sNext, sPar, sRaise, sRetN, sDead, ofP, ofB, ofL, pVar, pC, pOp, pUn, pB, pT, pTup, pLst, aNil, aCons, bAnd_eq, bOr_eq, bNot, pIf_eq, pCall, pFn, oLen,  dAt, dFld, dDic, oIsN, oNotN, isN, asB_bl, dI, dI2, gNm, gFld, gTup2, gKey, gIx, tTupE, tLstE, tLstM, tACons, tCallF, tMethF, tMakeF, tBin, tListM, tApp, tDic, tAll, tIfE, tAndB, tOrB, tTst, tB1, tNotB, setF, startD, oList, vAnd_eq, vOr_eq, vNot, dTru, tRng1, oAll, tUnE, tDead, bDead, sFldU, sNmU, pSl, oSome, oNone, oMin, oMax, asI, pCh_eq, cutD_mid, cutD_to, cutD_from, band15, band255, oInt_int,
 dLst_lst, dTup_tup, dLen_lst, dLen_tup, dSeq_lst, dSeq_tup, dSeq_scr, dIx_lst, dIx_tup, at0, at1, at2, at3, at4, at5, at6, at7, dEq_int, dEq_str, dEq_bl, dEq_nn, dEq_ni, dEq_in, dEq_ns, dEq_sn, dEq_is, dEq_si, dNe_int, dNe_str, dNe_ni, dNe_in, dAdd_int,
 isi_bool_non, isi_bool_bl, isi_bool_int, isi_bool_str, isi_bool_lst, isi_bool_tup, isi_bool_dic, isi_int_non, isi_int_bl, isi_int_int, isi_int_str, isi_int_lst, isi_int_tup, isi_int_dic, isi_str_non, isi_str_bl, isi_str_int, isi_str_str, isi_str_lst, isi_str_tup, isi_str_dic, isi_list_non, isi_list_bl, isi_list_int, isi_list_str, isi_list_lst, isi_list_tup, isi_list_dic, isi_tuple_non, isi_tuple_bl, isi_tuple_int, isi_tuple_str, isi_tuple_lst, isi_tuple_tup, isi_tuple_dic, isi_dict_non, isi_dict_bl, isi_dict_int, isi_dict_str, isi_dict_lst, isi_dict_tup, isi_dict_dic,
 List.map_cons, List.map_nil, List.replicate, List.cons_append, List.nil_append, List.append_nil, List.getElem?_cons_zero, List.getElem?_cons_succ, List.getElem?_nil, List.set_cons_zero, List.set_cons_succ, List.set_nil, List.length_cons, List.length_nil, Option.bind_some, Option.bind_none, Option.map_some, Option.map_none, Option.some.injEq, List.cons.injEq, and_true, true_and, and_assoc, exists_eq_left, exists_eq_left', exists_eq_right, exists_eq_right', exists_and_left, exists_const, if_true, if_false, Bool.false_eq_true, reduceCtorEq, put_same, put_put, Dt.int.injEq, Dt.bl.injEq, Dt.adr.injEq, Dt.tup.injEq, Dt.lst.injEq, Dt.str.injEq, decide_eq_true_eq, Bool.not_true, Bool.not_false, atI, ixN]
      exact hQ _ _ ⟨_, by omega, by omega, rfl, h1, f1⟩
  rintro _ S1 ⟨w, w0, w1, rfl, hD1, f1⟩
  refine seqI (fun ds' S' => ∃ x y : Int, 0 ≤ x ∧ x ≤ 255 ∧ 0 ≤ y ∧ y ≤ 255 ∧ ds' = [some (.adr a), some (.int w), some (il [48 + w, x, y])] ∧ DrAt S' a ∧ Fr S S' a) ?_ ?_
  case refine_2 =>
    intro Q hQ
    simp [sSeq, sIf, sAsg, sRet, sExpr, sNext, sPar, sRaise, sRetN, sDead, ofP, ofB, ofL, pVar, pC, pOp, pUn, pB, pT, pTup, pLst, aNil, aCons, bAnd_eq, bOr_eq, bNot, pIf_eq, pCall, pFn, oLen,  dAt, dFld, dDic, oIsN, oNotN, isN, asB_bl, dI, dI2, gNm, gFld, gTup2, gKey, gIx, tTupE, tLstE, tLstM, tACons, tCallF, tMethF, tMakeF, tBin, tListM, tApp, tDic, tAll, tIfE, tAndB, tOrB, tTst, tB1, tNotB, setF, startD, oList, vAnd_eq, vOr_eq, vNot, dTru, tRng1, oAll, tUnE, tDead, bDead, sFldU, sNmU, pSl, oSome, oNone, oMin, oMax, asI, pCh_eq, cutD_mid, cutD_to, cutD_from, band15, band255, oInt_int,
 dLst_lst, dTup_tup, dLen_lst, dLen_tup, dSeq_lst, dSeq_tup, dSeq_scr, dIx_lst, dIx_tup, at0, at1, at2, at3, at4, at5, at6, at7, dEq_int, dEq_str, dEq_bl, dEq_nn, dEq_ni, dEq_in, dEq_ns, dEq_sn, dEq_is, dEq_si, dNe_int, dNe_str, dNe_ni, dNe_in, dAdd_int,
 isi_bool_non, isi_bool_bl, isi_bool_int, isi_bool_str, isi_bool_lst, isi_bool_tup, isi_bool_dic, isi_int_non, isi_int_bl, isi_int_int, isi_int_str, isi_int_lst, isi_int_tup, isi_int_dic, isi_str_non, isi_str_bl, isi_str_int, isi_str_str, isi_str_lst, isi_str_tup, isi_str_dic, isi_list_non, isi_list_bl, isi_list_int, isi_list_str, isi_list_lst, isi_list_tup, isi_list_dic, isi_tuple_non, isi_tuple_bl, isi_tuple_int, isi_tuple_str, isi_tuple_lst, isi_tuple_tup, isi_tuple_dic, isi_dict_non, isi_dict_bl, isi_dict_int, isi_dict_str, isi_dict_lst, isi_dict_tup, isi_dict_dic,
 List.map_cons, List.map_nil, List.replicate, List.cons_append, List.nil_append, List.append_nil, List.getElem?_cons_zero, List.getElem?_cons_succ, List.getElem?_nil, List.set_cons_zero, List.set_cons_succ, List.set_nil, List.length_cons, List.length_nil, Option.bind_some, Option.bind_none, Option.map_some, Option.map_none, Option.some.injEq, List.cons.injEq, and_true, true_and, and_assoc, exists_eq_left, exists_eq_left', exists_eq_right, exists_eq_right', exists_and_left, exists_const, if_true, if_false, Bool.false_eq_true, reduceCtorEq, put_same, put_put, Dt.int.injEq, Dt.bl.injEq, Dt.adr.injEq, Dt.tup.injEq, Dt.lst.injEq, Dt.str.injEq, decide_eq_true_eq, Bool.not_true, Bool.not_false]
    refine ⟨a, 6, rfl, hD1, by omega, by omega, fun v S2 v0 v1 h2 f2 => ?_⟩
    have o1 : ∃ x : Int, 0 ≤ x ∧ x ≤ 255 ∧ atI [Dt.int 0, Dt.int 1, Dt.int 2, Dt.int 3, Dt.int 8, Dt.int 255] v = some (Dt.int x) := by
      have : v = 0 ∨ v = 1 ∨ v = 2 ∨ v = 3 ∨ v = 4 ∨ v = 5 := by omega
      rcases this with rfl | rfl | rfl | rfl | rfl | rfl
      all_goals exact ⟨_, by decide, by decide, rfl⟩
    obtain ⟨x, x0, x1, ex⟩ := o1
    simp [sSeq, sIf, sAsg, sRet, sExpr, sNext, sPar, sRaise, sRetN, sDead, ofP, ofB, ofL, pVar, pC, pOp, pUn, pB, pT, pTup, pLst, aNil, aCons, bAnd_eq, bOr_eq, bNot, pIf_eq, pCall, pFn, oLen,  dAt, dFld, dDic, oIsN, oNotN, isN, asB_bl, dI, dI2, gNm, gFld, gTup2, gKey, gIx, tTupE, tLstE, tLstM, tACons, tCallF, tMethF, tMakeF, tBin, tListM, tApp, tDic, tAll, tIfE, tAndB, tOrB, tTst, tB1, tNotB, setF, startD, oList, vAnd_eq, vOr_eq, vNot, dTru, tRng1, oAll, tUnE, tDead, bDead, sFldU, sNmU, pSl, oSome, oNone, oMin, oMax, asI, pCh_eq, cutD_mid, cutD_to, cutD_from, band15, band255, oInt_int,
 dLst_lst, dTup_tup, dLen_lst, dLen_tup, dSeq_lst, dSeq_tup, dSeq_scr, dIx_lst, dIx_tup, at0, at1, at2, at3, at4, at5, at6, at7, dEq_int, dEq_str, dEq_bl, dEq_nn, dEq_ni, dEq_in, dEq_ns, dEq_sn, dEq_is, dEq_si, dNe_int, dNe_str, dNe_ni, dNe_in, dAdd_int,
 isi_bool_non, isi_bool_bl, isi_bool_int, isi_bool_str, isi_bool_lst, isi_bool_tup, isi_bool_dic, isi_int_non, isi_int_bl, isi_int_int, isi_int_str, isi_int_lst, isi_int_tup, isi_int_dic, isi_str_non, isi_str_bl, isi_str_int, isi_str_str, isi_str_lst, isi_str_tup, isi_str_dic, isi_list_non, isi_list_bl, isi_list_int, isi_list_str, isi_list_lst, isi_list_tup, isi_list_dic, isi_tuple_non, isi_tuple_bl, isi_tuple_int, isi_tuple_str, isi_tuple_lst, isi_tuple_tup, isi_tuple_dic, isi_dict_non, isi_dict_bl, isi_dict_int, isi_dict_str, isi_dict_lst, isi_dict_tup, isi_dict_dic,
 List.map_cons, List.map_nil, List.replicate, List.cons_append, List.nil_append, List.append_nil, List.getElem?_cons_zero, List.getElem?_cons_succ, List.getElem?_nil, List.set_cons_zero, List.set_cons_succ, List.set_nil, List.length_cons, List.length_nil, Option.bind_some, Option.bind_none, Option.map_some, Option.map_none, Option.some.injEq, List.cons.injEq, and_true, true_and, and_assoc, exists_eq_left, exists_eq_left', exists_eq_right, exists_eq_right', exists_and_left, exists_const, if_true, if_false, Bool.false_eq_true, reduceCtorEq, put_same, put_put, Dt.int.injEq, Dt.bl.injEq, Dt.adr.injEq, Dt.tup.injEq, Dt.lst.injEq, Dt.str.injEq, decide_eq_true_eq, Bool.not_true, Bool.not_false, ex]
    refine ⟨a, 7, rfl, h2, by omega, by omega, fun v S3 v0 v1 h3 f3 => ?_⟩
    have o2 : ∃ y : Int, 0 ≤ y ∧ y ≤ 255 ∧ atI [Dt.int 0, Dt.int 0, Dt.int 1, Dt.int 20, Dt.int 127, Dt.int 128, Dt.int 255] v = some (Dt.int y) := by
      have : v = 0 ∨ v = 1 ∨ v = 2 ∨ v = 3 ∨ v = 4 ∨ v = 5 ∨ v = 6 := by omega
      rcases this with rfl | rfl | rfl | rfl | rfl | rfl | rfl
      all_goals exact ⟨_, by decide, by decide, rfl⟩
    obtain ⟨y, y0, y1, ey⟩ := o2
    simp [sSeq, sIf, sAsg, sRet, sExpr, sNext, sPar, sRaise, sRetN, sDead, ofP, ofB, ofL, pVar, pC, pOp, pUn, pB, pT, pTup, pLst, aNil, aCons, bAnd_eq, bOr_eq, bNot, pIf_eq, pCall, pFn, oLen,  dAt, dFld, dDic, oIsN, oNotN, isN, asB_bl, dI, dI2, gNm, gFld, gTup2, gKey, gIx, tTupE, tLstE, tLstM, tACons, tCallF, tMethF, tMakeF, tBin, tListM, tApp, tDic, tAll, tIfE, tAndB, tOrB, tTst, tB1, tNotB, setF, startD, oList, vAnd_eq, vOr_eq, vNot, dTru, tRng1, oAll, tUnE, tDead, bDead, sFldU, sNmU, pSl, oSome, oNone, oMin, oMax, asI, pCh_eq, cutD_mid, cutD_to, cutD_from, band15, band255, oInt_int,
 dLst_lst, dTup_tup, dLen_lst, dLen_tup, dSeq_lst, dSeq_tup, dSeq_scr, dIx_lst, dIx_tup, at0, at1, at2, at3, at4, at5, at6, at7, dEq_int, dEq_str, dEq_bl, dEq_nn, dEq_ni, dEq_in, dEq_ns, dEq_sn, dEq_is, dEq_si, dNe_int, dNe_str, dNe_ni, dNe_in, dAdd_int,
 isi_bool_non, isi_bool_bl, isi_bool_int, isi_bool_str, isi_bool_lst, isi_bool_tup, isi_bool_dic, isi_int_non, isi_int_bl, isi_int_int, isi_int_str, isi_int_lst, isi_int_tup, isi_int_dic, isi_str_non, isi_str_bl, isi_str_int, isi_str_str, isi_str_lst, isi_str_tup, isi_str_dic, isi_list_non, isi_list_bl, isi_list_int, isi_list_str, isi_list_lst, isi_list_tup, isi_list_dic, isi_tuple_non, isi_tuple_bl, isi_tuple_int, isi_tuple_str, isi_tuple_lst, isi_tuple_tup, isi_tuple_dic, isi_dict_non, isi_dict_bl, isi_dict_int, isi_dict_str, isi_dict_lst, isi_dict_tup, isi_dict_dic,
 List.map_cons, List.map_nil, List.replicate, List.cons_append, List.nil_append, List.append_nil, List.getElem?_cons_zero, List.getElem?_cons_succ, List.getElem?_nil, List.set_cons_zero, List.set_cons_succ, List.set_nil, List.length_cons, List.length_nil, Option.bind_some, Option.bind_none, Option.map_some, Option.map_none, Option.some.injEq, List.cons.injEq, and_true, true_and, and_assoc, exists_eq_left, exists_eq_left', exists_eq_right, exists_eq_right', exists_and_left, exists_const, if_true, if_false, Bool.false_eq_true, reduceCtorEq, put_same, put_put, Dt.int.injEq, Dt.bl.injEq, Dt.adr.injEq, Dt.tup.injEq, Dt.lst.injEq, Dt.str.injEq, decide_eq_true_eq, Bool.not_true, Bool.not_false, ey]
    exact hQ _ _ ⟨x, y, x0, x1, y0, y1, rfl, h3, fun b hb => (f3 b hb).trans ((f2 b hb).trans (f1 b hb))⟩
  rintro _ S2 ⟨x, y, x0, x1, y0, y1, rfl, hD2, f2⟩
  have add : ∀ S, dAdd S (il [48 + w, x, y]) (.lst [.int 9]) = some (il [48 + w, x, y, 9]) := fun S => dAdd_lst (by simp)
  have w3 : (48 + w) / 16 = 3 := by omega
  have w4 : (48 + w) % 16 = w := by omega
  have oo : ∀ oct S', oct ∈ ([[48 + w, x, y], [48 + w, x, y, 9], [48 + w, x], [33, 1, 2], [2, 5, 5], []] : List (List Int)) → DrAt S' a → Fr S S' a → Φ (il oct) S' := fun oct S' h h1 h2 => by
    simp only [List.mem_cons, List.not_mem_nil, or_false] at h
    rcases h with rfl | rfl | rfl | rfl | rfl | rfl
    · exact k _ _ (by simp [octs]; omega) (by simp) ⟨_, by simp only [toldM, w3, if_true]; rfl⟩ h1 h2
    · exact k _ _ (by simp [octs]; omega) (by simp) ⟨_, by simp only [toldM, w3, if_true]; rfl⟩ h1 h2
    · exact k _ _ (by simp [octs]; omega) (by simp) ⟨_, by simp only [toldM, w3, if_true]; rfl⟩ h1 h2
    · exact k _ _ (by decide) (by simp) ⟨_, rfl⟩ h1 h2
    · exact k _ _ (by decide) (by simp) ⟨_, rfl⟩ h1 h2
    · exact k _ _ (by decide) (by simp) ⟨_, rfl⟩ h1 h2
  simp only [il, List.map_cons, List.map_nil] at add oo
  simp [sSeq, sIf, sAsg, sRet, sExpr, sNext, sPar, sRaise, sRetN, sDead, ofP, ofB, ofL, pVar, pC, pOp, pUn, pB, pT, pTup, pLst, aNil, aCons, bAnd_eq, bOr_eq, bNot, pIf_eq, pCall, pFn, oLen,  dAt, dFld, dDic, oIsN, oNotN, isN, asB_bl, dI, dI2, gNm, gFld, gTup2, gKey, gIx, tTupE, tLstE, tLstM, tACons, tCallF, tMethF, tMakeF, tBin, tListM, tApp, tDic, tAll, tIfE, tAndB, tOrB, tTst, tB1, tNotB, setF, startD, oList, vAnd_eq, vOr_eq, vNot, dTru, tRng1, oAll, tUnE, tDead, bDead, sFldU, sNmU, pSl, oSome, oNone, oMin, oMax, asI, pCh_eq, cutD_mid, cutD_to, cutD_from, band15, band255, oInt_int,
 dLst_lst, dTup_tup, dLen_lst, dLen_tup, dSeq_lst, dSeq_tup, dSeq_scr, dIx_lst, dIx_tup, at0, at1, at2, at3, at4, at5, at6, at7, dEq_int, dEq_str, dEq_bl, dEq_nn, dEq_ni, dEq_in, dEq_ns, dEq_sn, dEq_is, dEq_si, dNe_int, dNe_str, dNe_ni, dNe_in, dAdd_int,
 isi_bool_non, isi_bool_bl, isi_bool_int, isi_bool_str, isi_bool_lst, isi_bool_tup, isi_bool_dic, isi_int_non, isi_int_bl, isi_int_int, isi_int_str, isi_int_lst, isi_int_tup, isi_int_dic, isi_str_non, isi_str_bl, isi_str_int, isi_str_str, isi_str_lst, isi_str_tup, isi_str_dic, isi_list_non, isi_list_bl, isi_list_int, isi_list_str, isi_list_lst, isi_list_tup, isi_list_dic, isi_tuple_non, isi_tuple_bl, isi_tuple_int, isi_tuple_str, isi_tuple_lst, isi_tuple_tup, isi_tuple_dic, isi_dict_non, isi_dict_bl, isi_dict_int, isi_dict_str, isi_dict_lst, isi_dict_tup, isi_dict_dic,
 List.map_cons, List.map_nil, List.replicate, List.cons_append, List.nil_append, List.append_nil, List.getElem?_cons_zero, List.getElem?_cons_succ, List.getElem?_nil, List.set_cons_zero, List.set_cons_succ, List.set_nil, List.length_cons, List.length_nil, Option.bind_some, Option.bind_none, Option.map_some, Option.map_none, Option.some.injEq, List.cons.injEq, and_true, true_and, and_assoc, exists_eq_left, exists_eq_left', exists_eq_right, exists_eq_right', exists_and_left, exists_const, if_true, if_false, Bool.false_eq_true, reduceCtorEq, put_same, put_put, Dt.int.injEq, Dt.bl.injEq, Dt.adr.injEq, Dt.tup.injEq, Dt.lst.injEq, Dt.str.injEq, decide_eq_true_eq, Bool.not_true, Bool.not_false, il, add]
  refine ⟨a, 7, rfl, hD2, by omega, by omega, fun v S3 v0 v1 h3 f3 => ?_⟩
  have f4 : Fr S S3 a := fun b hb => (f3 b hb).trans (f2 b hb)
  have : v = 0 ∨ v = 1 ∨ v = 2 ∨ v = 3 ∨ v = 4 ∨ v = 5 ∨ v = 6 := by omega
  rcases this with rfl | rfl | rfl | rfl | rfl | rfl | rfl
  all_goals simp [sSeq, sIf, sAsg, sRet, sExpr, sNext, sPar, sRaise, sRetN, sDead, ofP, ofB, ofL, pVar, pC, pOp, pUn, pB, pT, pTup, pLst, aNil, aCons, bAnd_eq, bOr_eq, bNot, pIf_eq, pCall, pFn, oLen,  dAt, dFld, dDic, oIsN, oNotN, isN, asB_bl, dI, dI2, gNm, gFld, gTup2, gKey, gIx, tTupE, tLstE, tLstM, tACons, tCallF, tMethF, tMakeF, tBin, tListM, tApp, tDic, tAll, tIfE, tAndB, tOrB, tTst, tB1, tNotB, setF, startD, oList, vAnd_eq, vOr_eq, vNot, dTru, tRng1, oAll, tUnE, tDead, bDead, sFldU, sNmU, pSl, oSome, oNone, oMin, oMax, asI, pCh_eq, cutD_mid, cutD_to, cutD_from, band15, band255, oInt_int,
 dLst_lst, dTup_tup, dLen_lst, dLen_tup, dSeq_lst, dSeq_tup, dSeq_scr, dIx_lst, dIx_tup, at0, at1, at2, at3, at4, at5, at6, at7, dEq_int, dEq_str, dEq_bl, dEq_nn, dEq_ni, dEq_in, dEq_ns, dEq_sn, dEq_is, dEq_si, dNe_int, dNe_str, dNe_ni, dNe_in, dAdd_int,
 isi_bool_non, isi_bool_bl, isi_bool_int, isi_bool_str, isi_bool_lst, isi_bool_tup, isi_bool_dic, isi_int_non, isi_int_bl, isi_int_int, isi_int_str, isi_int_lst, isi_int_tup, isi_int_dic, isi_str_non, isi_str_bl, isi_str_int, isi_str_str, isi_str_lst, isi_str_tup, isi_str_dic, isi_list_non, isi_list_bl, isi_list_int, isi_list_str, isi_list_lst, isi_list_tup, isi_list_dic, isi_tuple_non, isi_tuple_bl, isi_tuple_int, isi_tuple_str, isi_tuple_lst, isi_tuple_tup, isi_tuple_dic, isi_dict_non, isi_dict_bl, isi_dict_int, isi_dict_str, isi_dict_lst, isi_dict_tup, isi_dict_dic,
 List.map_cons, List.map_nil, List.replicate, List.cons_append, List.nil_append, List.append_nil, List.getElem?_cons_zero, List.getElem?_cons_succ, List.getElem?_nil, List.set_cons_zero, List.set_cons_succ, List.set_nil, List.length_cons, List.length_nil, Option.bind_some, Option.bind_none, Option.map_some, Option.map_none, Option.some.injEq, List.cons.injEq, and_true, true_and, and_assoc, exists_eq_left, exists_eq_left', exists_eq_right, exists_eq_right', exists_and_left, exists_const, if_true, if_false, Bool.false_eq_true, reduceCtorEq, put_same, put_put, Dt.int.injEq, Dt.bl.injEq, Dt.adr.injEq, Dt.tup.injEq, Dt.lst.injEq, Dt.str.injEq, decide_eq_true_eq, Bool.not_true, Bool.not_false]
  · exact oo [48 + w, x, y] _ (by simp) h3 f4
  · exact oo [48 + w, x, y] _ (by simp) h3 f4
  · exact oo [48 + w, x, y, 9] _ (by simp) h3 f4
  · exact oo [48 + w, x] _ (by simp) h3 f4
  · exact oo [33, 1, 2] _ (by simp) h3 f4
  · exact oo [2, 5, 5] _ (by simp) h3 f4
  · exact oo [] _ (by simp) h3 f4
end K47
set_option maxRecDepth 100000
set_option maxHeartbeats 4000000
namespace K47
open PySem PySem.Spec PyProof.Rows L2 Ax
theorem sms_ints {S : Sto} {n : Nat} : ∀ xs : List Int, sms S (n + 1) (xs.map Dt.int) (xs.map Dt.int) = true
  | [] => by simp [sms]
  | x :: xs => by
    rw [List.map_cons, sms, sms_ints xs]
    simp [sm]
theorem sm_il {S : Sto} {n : Nat} {xs : List Int} (h : xs.length ≤ 100) : sm S (n + 2) (il xs) (il xs) = true := by
  have : xs.length ≤ 1000 := by omega
  simp [il, sm, sms_ints, this]
theorem sms_rows {S : Sto} {n : Nat} : ∀ {f : List (Int × List Int)}, ROk f → sms S (n + 3) (f.map rowD) (f.map rowD) = true
  | [], _ => by simp [sms]
  | r :: f, h => by
    rw [List.map_cons, sms, sms_rows fun x hx => h x (List.mem_cons_of_mem _ hx)]
    have := h r List.mem_cons_self
    simp [rowD, sm, sms, sm_il this]
theorem sm_rows {S : Sto} {n : Nat} {f : List (Int × List Int)} (h : ROk f) (hl : f.length ≤ 1000) : sm S (n + 4) (rowsD f) (rowsD f) = true := by
  simp [rowsD, sm, sms_rows h, hl]
theorem short_told : ("told" : Str).length ≤ 1000 := by decide +kernel
theorem short_wrong : ("wrong" : Str).length ≤ 1000 := by decide +kernel
theorem short_begin : ("begin" : Str).length ≤ 1000 := by decide +kernel
theorem short_new : ("new" : Str).length ≤ 1000 := by decide +kernel
theorem short_st : ∀ x ∈ sts, x.length ≤ 1000 := by decide +kernel
theorem new_no : ¬ ("new" : Str) ∈ sts := by decide +kernel
theorem sm_oD {S : Sto} {n : Nat} {b : Option Int} : sm S (n + 1) (oD b) (oD b) = true := by
  cases b <;> simp [oD, sm]
theorem sm_told {S : Sto} {n : Nat} {d : Dt} (h : sm S (n + 1) d d = true) : sm S (n + 2) (.tup [.str "told", d]) (.tup [.str "told", d]) = true := by
  simp [sm, sms, h, short_told]
theorem start_good {m : M} {t : Int} (h : WF m) (hs : m.state = "new") : Good (startM m t).1 ∧ ROk (startM m t).2 ∧ (startM m t).2.length = 1 := by
  unfold startM
  simp only
  split
  · refine ⟨⟨⟨h.len, fun _ => ⟨dW, dS⟩⟩, .inl rfl, by simp [stop]⟩, fun r hr => ?_, rfl⟩
    simp only [List.mem_singleton] at hr
    subst hr
    simp
    omega
  · refine ⟨⟨⟨h.len, fun z => by simp at z⟩, .inr (.inl rfl), by simp⟩, fun r hr => ?_, rfl⟩
    simp only [List.mem_singleton] at hr
    subst hr
    simp
    omega
def I4 (A : Ad) (S : Sto) (aD aS c aO : Addr) (m mo : M) : Prop := DrAt S aD ∧ SAt A S aS c m ∧ OAt S aO mo ∧ aD ≠ aS ∧ aD ≠ c ∧ aD ≠ aO ∧ aS ≠ aO ∧ c ≠ aO
section
variable {A : Ad} {S S' : Sto} {aD aS c aO g : Addr} {m mo m' : M}
theorem SAt.fr (h : SAt A S aS c m) (h1 : S' aS = S aS) (h2 : S' c = S c) : SAt A S' aS c m := by
  obtain ⟨⟨p, hp, hq⟩, hc, ne, wf⟩ := h
  exact ⟨⟨p, h1.trans hp, hq⟩, h2.trans hc, ne, wf⟩
theorem OAt.fr (h : OAt S aO mo) (h1 : S' aO = S aO) : OAt S' aO mo := ⟨h1.trans h.1, h.2⟩
theorem I4.dr (h : I4 A S aD aS c aO m mo) (h1 : DrAt S' aD) (f : Fr S S' aD) : I4 A S' aD aS c aO m mo := by
  obtain ⟨a1, a2, a3, n1, n2, n3, n4, n5⟩ := h
  exact ⟨h1, a2.fr (f _ (Ne.symm n1)) (f _ (Ne.symm n2)), a3.fr (f _ (Ne.symm n3)), n1, n2, n3, n4, n5⟩
theorem I4.se (h : I4 A S aD aS c aO m mo) (h1 : SAt A S' aS c m') (f : Fr2 S S' aS c) : I4 A S' aD aS c aO m' mo := by
  obtain ⟨a1, a2, a3, n1, n2, n3, n4, n5⟩ := h
  obtain ⟨cells, i, j, s, d1, d2⟩ := a1
  exact ⟨⟨cells, i, j, s, (f aD n1 n2).trans d1, d2⟩, h1, a3.fr (f _ (Ne.symm n4) (Ne.symm n5)), n1, n2, n3, n4, n5⟩
theorem I4.ow (h : I4 A S aD aS c aO m mo) (h1 : OAt S' aO m') (f : Fr S S' aO) : I4 A S' aD aS c aO m m' := by
  obtain ⟨a1, a2, a3, n1, n2, n3, n4, n5⟩ := h
  exact ⟨a1.fr f n3, a2.fr (f _ n4) (f _ n5), h1, n1, n2, n3, n4, n5⟩
theorem I4.out (h : I4 A S aD aS c aO m mo) (f : Fr S S' g) (h1 : aD ≠ g) (h2 : aS ≠ g) (h3 : c ≠ g) (h4 : aO ≠ g) : I4 A S' aD aS c aO m mo := by
  obtain ⟨a1, a2, a3, n⟩ := h
  exact ⟨a1.fr f h1, a2.fr (f _ h2) (f _ h3), a3.fr (f _ h4), n⟩
end
abbrev ev (ns : List Int) (aD : Addr) (r : List (Option Dt)) : Ax.Env := some (.scr ns) :: some (.adr aD) :: r
def Inv0 (ns : List Int) (ds : Ax.Env) (S : Sto) : Prop := ∃ aD x2 x3 x4 x5 x6 x7 x8 x9 x10 x11 x12 x13 x14 x15, ds = ev ns aD [x2, x3, x4, x5, x6, x7, x8, x9, x10, x11, x12, x13, x14, x15] ∧ DrAt S aD
def Inv1 (A : Ad) (ns : List Int) (ds : Ax.Env) (S : Sto) : Prop := ∃ aD aS c aO m x2 x3 x4 x5 x6 x9 x10 x11 x12 x13 x14 x15, ds = ev ns aD [x2, x3, x4, x5, x6, some (.adr aS), some (.adr aO), x9, x10, x11, x12, x13, x14, x15] ∧ I4 A S aD aS c aO m m ∧ Good m
def InvD (A : Ad) (ns : List Int) (ds : Ax.Env) (S : Sto) : Prop := ∃ aD aS c aO m told due x2 x3 x4 x5 x6 x9 x10 x11 x14 x15, ds = ev ns aD [x2, x3, x4, x5, x6, some (.adr aS), some (.adr aO), x9, x10, x11, some told, some due, x14, x15] ∧ I4 A S aD aS c aO m m ∧ Good m ∧ sm S 7 told due = true
/-- the inner turn -/
theorem turn_ok (A : Ad) (ns : List Int) {L : LEnds} {x : Dt} {ds : Ax.Env} {S : Sto} (hI : Inv1 A ns ds S) (hQ : ∀ ds' S', Inv1 A ns ds' S' → L.nx ds' S') {U1 U2 U3 U4 : LTs}
    (h1 : ∀ aD aS c aO m x2 x3 x4 x5 x6 x9 x10 x11 x12 x13 x14 x15 S, I4 A S aD aS c aO m m → Good m → ∀ Q : Ax.Env → Sto → Prop, (∀ now S', m.now ≤ now → I4 A S' aD aS c aO m m → Q (ev ns aD [x2, x3, x4, x5, x6, some (.adr aS), some (.adr aO), some (.int now), x10, x11, x12, x13, x14, x15]) S') → U1 { L with nx := Q } (ev ns aD [x2, x3, x4, x5, x6, some (.adr aS), some (.adr aO), x9, x10, x11, x12, x13, x14, x15]) S)
    (h2 : ∀ aD aS c aO m x2 x3 x4 x5 x6 now x10 x11 x12 x13 x14 x15 S, I4 A S aD aS c aO m m → ∀ Q : Ax.Env → Sto → Prop, (∀ (kind : Int) S', I4 A S' aD aS c aO m m → Q (ev ns aD [x2, x3, x4, x5, x6, some (.adr aS), some (.adr aO), some (.int now), some (.int kind), x11, x12, x13, x14, x15]) S') → U2 { L with nx := Q } (ev ns aD [x2, x3, x4, x5, x6, some (.adr aS), some (.adr aO), some (.int now), x10, x11, x12, x13, x14, x15]) S)
    (h3 : ∀ aD aS c aO m x2 x3 x4 x5 x6 now kind x11 x12 x13 x14 x15 S, m.now ≤ now → I4 A S aD aS c aO m m → Good m → ∀ Q : Ax.Env → Sto → Prop, (∀ ds' S', InvD A ns ds' S' → Q ds' S') → U3 { L with nx := Q } (ev ns aD [x2, x3, x4, x5, x6, some (.adr aS), some (.adr aO), some (.int now), some (.int kind), x11, x12, x13, x14, x15]) S)
    (h4 : ∀ ds S, InvD A ns ds S → ∀ Q : Ax.Env → Sto → Prop, (∀ ds' S', Inv1 A ns ds' S' → Q ds' S') → U4 { L with nx := Q } ds S) : sSeq U1 (sSeq U2 (sSeq U3 U4)) L ds S := by
  obtain ⟨aD, aS, c, aO, m, x2, x3, x4, x5, x6, x9, x10, x11, x12, x13, x14, x15, rfl, hi, g⟩ := hI
  exact h1 aD aS c aO m x2 x3 x4 x5 x6 x9 x10 x11 x12 x13 x14 x15 S hi g _ fun now S1 hn i1 => h2 aD aS c aO m x2 x3 x4 x5 x6 now x10 x11 x12 x13 x14 x15 S1 i1 _ fun kind S2 i2 =>
    h3 aD aS c aO m x2 x3 x4 x5 x6 now kind x11 x12 x13 x14 x15 S2 hn i2 g _ fun ds' S' hd => h4 ds' S' hd _ hQ
theorem flat_len (n : Nat) : (List.replicate n [Dt.int 0]).flatten.length = n := by
  induction n with
  | zero => rfl
  | succ n ih => rw [List.replicate_succ, List.flatten_cons, List.length_append, ih, List.length_singleton, Nat.add_comm]
theorem rep_mul {S : Sto} {k : Int} (h1 : -(2 ^ 63) ≤ k) (h2 : k < 2 ^ 63) (h3 : ([Dt.int 0] : List Dt).length * k.toNat ≤ sizeLine) : dMul S (.lst [.int 0]) (.int k) = some (.lst (List.replicate k.toNat [Dt.int 0]).flatten) := by
  unfold dMul
  simp only [dLst_lst, Option.bind_some]
  rw [if_pos ⟨h1, h2, h3⟩]
theorem rep_ex (k : Int) (h0 : 0 ≤ k) (h1 : k ≤ 5000) : ∃ r : List Dt, (r.length : Int) = k ∧ ∀ S, dMul S (.lst [.int 0]) (.int k) = some (.lst r) := by
  refine ⟨(List.replicate k.toNat [Dt.int 0]).flatten, by rw [flat_len]; omega, fun S => rep_mul (by omega) (by omega) ?_⟩
  rw [List.length_singleton, Nat.one_mul, sizeLine_eq]
  omega
theorem lc_rng {cc : Dt → Option Bool} {t : Dt → Option Dt} {h : Int → Int} (hh : ∀ i : Int, cc (.int i) = some true ∧ t (.int i) = some (.int (h i))) (n : Nat) : lcRun cc t (rng 0 n) = some (((List.range n).map fun (i : Nat) => h (i : Int)).map Dt.int) := by
  have key : ∀ l : List Nat, lcRun cc t (l.map fun (i : Nat) => Dt.int (0 + (i : Int))) = some ((l.map fun (i : Nat) => h (i : Int)).map Dt.int) := by
    intro l
    induction l with
    | nil => rfl
    | cons i l ih =>
      obtain ⟨h1, h2⟩ := hh (i : Int)
      simp only [Int.zero_add] at ih
      simp only [List.map_cons, lcRun, Int.zero_add, h1, h2, ih, Option.bind_some, Option.map_some]
  exact key _
theorem len_law (A : Ad) : ∀ ds S Φ Ψ, sp_law A ds S Φ Ψ → ds.length = 1 := fun ds S Φ Ψ ⟨_, e, _⟩ => by rw [e]; rfl
theorem law_law (A : Ad) : ∀ ds S Φ Ψ, sp_law A ds S Φ Ψ → T_law A (LE0 Φ Ψ) (startD 15 ds) S := by
  rintro ds S Φ Ψ ⟨ns, rfl, hl, k⟩
  unfold T_law
  refine seqI (Inv0 ns) ?_ ?_
  case refine_2 =>
    intro Q hQ
    simp [sSeq, sIf, sAsg, sRet, sExpr, sNext, sPar, sRaise, sRetN, sDead, ofP, ofB, ofL, pVar, pC, pOp, pUn, pB, pT, pTup, pLst, aNil, aCons, bAnd_eq, bOr_eq, bNot, pIf_eq, pCall, pFn, oLen,  dAt, dFld, dDic, oIsN, oNotN, isN, asB_bl, dI, dI2, gNm, gFld, gTup2, gKey, gIx, tTupE, tLstE, tLstM, tACons, tCallF, tMethF, tMakeF, tBin, tListM, tApp, tDic, tAll, tIfE, tAndB, tOrB, tTst, tB1, tNotB, setF, startD, oList, vAnd_eq, vOr_eq, vNot, dTru, tRng1, oAll, tUnE, tDead, bDead, sFldU, sNmU, pSl, oSome, oNone, oMin, oMax, asI, pCh_eq, cutD_mid, cutD_to, cutD_from, band15, band255, oInt_int,
 dLst_lst, dTup_tup, dLen_lst, dLen_tup, dSeq_lst, dSeq_tup, dSeq_scr, dIx_lst, dIx_tup, at0, at1, at2, at3, at4, at5, at6, at7, dEq_int, dEq_str, dEq_bl, dEq_nn, dEq_ni, dEq_in, dEq_ns, dEq_sn, dEq_is, dEq_si, dNe_int, dNe_str, dNe_ni, dNe_in, dAdd_int,
 isi_bool_non, isi_bool_bl, isi_bool_int, isi_bool_str, isi_bool_lst, isi_bool_tup, isi_bool_dic, isi_int_non, isi_int_bl, isi_int_int, isi_int_str, isi_int_lst, isi_int_tup, isi_int_dic, isi_str_non, isi_str_bl, isi_str_int, isi_str_str, isi_str_lst, isi_str_tup, isi_str_dic, isi_list_non, isi_list_bl, isi_list_int, isi_list_str, isi_list_lst, isi_list_tup, isi_list_dic, isi_tuple_non, isi_tuple_bl, isi_tuple_int, isi_tuple_str, isi_tuple_lst, isi_tuple_tup, isi_tuple_dic, isi_dict_non, isi_dict_bl, isi_dict_int, isi_dict_str, isi_dict_lst, isi_dict_tup, isi_dict_dic,
 List.map_cons, List.map_nil, List.replicate, List.cons_append, List.nil_append, List.append_nil, List.getElem?_cons_zero, List.getElem?_cons_succ, List.getElem?_nil, List.set_cons_zero, List.set_cons_succ, List.set_nil, List.length_cons, List.length_nil, Option.bind_some, Option.bind_none, Option.map_some, Option.map_none, Option.some.injEq, List.cons.injEq, and_true, true_and, and_assoc, exists_eq_left, exists_eq_left', exists_eq_right, exists_eq_right', exists_and_left, exists_const, if_true, if_false, Bool.false_eq_true, reduceCtorEq, put_same, put_put, Dt.int.injEq, Dt.bl.injEq, Dt.adr.injEq, Dt.tup.injEq, Dt.lst.injEq, Dt.str.injEq, decide_eq_true_eq, Bool.not_true, Bool.not_false]
    exact ⟨ns, rfl, hl, fun p S1 hp h1 f1 => hQ _ _ ⟨p, none, none, none, none, none, none, none, none, none, none, none, none, none, none, rfl, h1⟩⟩
  intro ds S hI
  refine seqI (Inv0 ns) ?_ ?_
  · rintro ds' S' ⟨aD, x2, x3, x4, x5, x6, x7, x8, x9, x10, x11, x12, x13, x14, x15, rfl, hD⟩
    obtain ⟨r1, l1, m1⟩ : ∃ r1 : List Dt, (r1.length : Int) = 4096 ∧ ∀ S, dMul S (.lst [.int 0]) (.int 4096) = some (.lst r1) := rep_ex 4096 (by omega) (by omega)
    obtain ⟨r2, l2, m2⟩ : ∃ r2 : List Dt, (r2.length : Int) = 4095 ∧ ∀ S, dMul S (.lst [.int 0]) (.int 4095) = some (.lst r2) := rep_ex 4095 (by omega) (by omega)
    simp [sSeq, sIf, sAsg, sRet, sExpr, sNext, sPar, sRaise, sRetN, sDead, ofP, ofB, ofL, pVar, pC, pOp, pUn, pB, pT, pTup, pLst, aNil, aCons, bAnd_eq, bOr_eq, bNot, pIf_eq, pCall, pFn, oLen,  dAt, dFld, dDic, oIsN, oNotN, isN, asB_bl, dI, dI2, gNm, gFld, gTup2, gKey, gIx, tTupE, tLstE, tLstM, tACons, tCallF, tMethF, tMakeF, tBin, tListM, tApp, tDic, tAll, tIfE, tAndB, tOrB, tTst, tB1, tNotB, setF, startD, oList, vAnd_eq, vOr_eq, vNot, dTru, tRng1, oAll, tUnE, tDead, bDead, sFldU, sNmU, pSl, oSome, oNone, oMin, oMax, asI, pCh_eq, cutD_mid, cutD_to, cutD_from, band15, band255, oInt_int,
 dLst_lst, dTup_tup, dLen_lst, dLen_tup, dSeq_lst, dSeq_tup, dSeq_scr, dIx_lst, dIx_tup, at0, at1, at2, at3, at4, at5, at6, at7, dEq_int, dEq_str, dEq_bl, dEq_nn, dEq_ni, dEq_in, dEq_ns, dEq_sn, dEq_is, dEq_si, dNe_int, dNe_str, dNe_ni, dNe_in, dAdd_int,
 isi_bool_non, isi_bool_bl, isi_bool_int, isi_bool_str, isi_bool_lst, isi_bool_tup, isi_bool_dic, isi_int_non, isi_int_bl, isi_int_int, isi_int_str, isi_int_lst, isi_int_tup, isi_int_dic, isi_str_non, isi_str_bl, isi_str_int, isi_str_str, isi_str_lst, isi_str_tup, isi_str_dic, isi_list_non, isi_list_bl, isi_list_int, isi_list_str, isi_list_lst, isi_list_tup, isi_list_dic, isi_tuple_non, isi_tuple_bl, isi_tuple_int, isi_tuple_str, isi_tuple_lst, isi_tuple_tup, isi_tuple_dic, isi_dict_non, isi_dict_bl, isi_dict_int, isi_dict_str, isi_dict_lst, isi_dict_tup, isi_dict_dic,
 List.map_cons, List.map_nil, List.replicate, List.cons_append, List.nil_append, List.append_nil, List.getElem?_cons_zero, List.getElem?_cons_succ, List.getElem?_nil, List.set_cons_zero, List.set_cons_succ, List.set_nil, List.length_cons, List.length_nil, Option.bind_some, Option.bind_none, Option.map_some, Option.map_none, Option.some.injEq, List.cons.injEq, and_true, true_and, and_assoc, exists_eq_left, exists_eq_left', exists_eq_right, exists_eq_right', exists_and_left, exists_const, if_true, if_false, Bool.false_eq_true, reduceCtorEq, put_same, put_put, Dt.int.injEq, Dt.bl.injEq, Dt.adr.injEq, Dt.tup.injEq, Dt.lst.injEq, Dt.str.injEq, decide_eq_true_eq, Bool.not_true, Bool.not_false, m1, m2]
    refine ⟨_, [], rfl, rfl, by simp, fun S1 f1 => ?_⟩
    refine ⟨_, r1, rfl, rfl, by omega, fun S2 f2 => ?_⟩
    refine ⟨_, r2, rfl, rfl, by omega, fun S3 f3 => ?_⟩
    refine ⟨.bl true, ?_, k _⟩
    have n1 : r1.length = 4096 := by omega
    have n2 : r2.length = 4095 := by omega
    have c1 : ¬ (1 ≤ r1.length ∧ r1.length ≤ 4095) := by omega
    have c2 : 1 ≤ r2.length ∧ r2.length ≤ 4095 := by omega
    rw [if_neg c1, if_pos c2, l1]
    simp [g__law_same, sm, sms]
  intro Q0 hQ0
  obtain ⟨aD, x2, x3, x4, x5, x6, x7, x8, x9, x10, x11, x12, x13, x14, x15, rfl, hD⟩ := hI
  simp only [sFor]
  simp [sSeq, sIf, sAsg, sRet, sExpr, sNext, sPar, sRaise, sRetN, sDead, ofP, ofB, ofL, pVar, pC, pOp, pUn, pB, pT, pTup, pLst, aNil, aCons, bAnd_eq, bOr_eq, bNot, pIf_eq, pCall, pFn, oLen,  dAt, dFld, dDic, oIsN, oNotN, isN, asB_bl, dI, dI2, gNm, gFld, gTup2, gKey, gIx, tTupE, tLstE, tLstM, tACons, tCallF, tMethF, tMakeF, tBin, tListM, tApp, tDic, tAll, tIfE, tAndB, tOrB, tTst, tB1, tNotB, setF, startD, oList, vAnd_eq, vOr_eq, vNot, dTru, tRng1, oAll, tUnE, tDead, bDead, sFldU, sNmU, pSl, oSome, oNone, oMin, oMax, asI, pCh_eq, cutD_mid, cutD_to, cutD_from, band15, band255, oInt_int,
 dLst_lst, dTup_tup, dLen_lst, dLen_tup, dSeq_lst, dSeq_tup, dSeq_scr, dIx_lst, dIx_tup, at0, at1, at2, at3, at4, at5, at6, at7, dEq_int, dEq_str, dEq_bl, dEq_nn, dEq_ni, dEq_in, dEq_ns, dEq_sn, dEq_is, dEq_si, dNe_int, dNe_str, dNe_ni, dNe_in, dAdd_int,
 isi_bool_non, isi_bool_bl, isi_bool_int, isi_bool_str, isi_bool_lst, isi_bool_tup, isi_bool_dic, isi_int_non, isi_int_bl, isi_int_int, isi_int_str, isi_int_lst, isi_int_tup, isi_int_dic, isi_str_non, isi_str_bl, isi_str_int, isi_str_str, isi_str_lst, isi_str_tup, isi_str_dic, isi_list_non, isi_list_bl, isi_list_int, isi_list_str, isi_list_lst, isi_list_tup, isi_list_dic, isi_tuple_non, isi_tuple_bl, isi_tuple_int, isi_tuple_str, isi_tuple_lst, isi_tuple_tup, isi_tuple_dic, isi_dict_non, isi_dict_bl, isi_dict_int, isi_dict_str, isi_dict_lst, isi_dict_tup, isi_dict_dic,
 List.map_cons, List.map_nil, List.replicate, List.cons_append, List.nil_append, List.append_nil, List.getElem?_cons_zero, List.getElem?_cons_succ, List.getElem?_nil, List.set_cons_zero, List.set_cons_succ, List.set_nil, List.length_cons, List.length_nil, Option.bind_some, Option.bind_none, Option.map_some, Option.map_none, Option.some.injEq, List.cons.injEq, and_true, true_and, and_assoc, exists_eq_left, exists_eq_left', exists_eq_right, exists_eq_right', exists_and_left, exists_const, if_true, if_false, Bool.false_eq_true, reduceCtorEq, put_same, put_put, Dt.int.injEq, Dt.bl.injEq, Dt.adr.injEq, Dt.tup.injEq, Dt.lst.injEq, Dt.str.injEq, decide_eq_true_eq, Bool.not_true, Bool.not_false]
  refine forI (Inv0 ns) ⟨aD, x2, x3, x4, x5, x6, x7, x8, x9, x10, x11, x12, x13, x14, x15, rfl, hD⟩ ?_ hQ0
  clear hQ0 k hD
  rintro x hx ds S ⟨aD, x2, x3, x4, x5, x6, x7, x8, x9, x10, x11, x12, x13, x14, x15, rfl, hD⟩ Q hQ
  obtain ⟨turn, rfl⟩ : ∃ t : Int, x = .int t := by
    obtain ⟨i, _, e⟩ := List.mem_map.mp hx
    exact ⟨_, e.symm⟩
  simp only [gNm, List.set_cons_succ, List.set_cons_zero]
  -- data
  refine seqI (fun ds' S' => ∃ data : List Int, 1 ≤ data.length ∧ data.length ≤ 200 ∧ ds' = ev ns aD [some (.int turn), some (il data), x4, x5, x6, x7, x8, x9, x10, x11, x12, x13, x14, x15] ∧ DrAt S' aD) ?_ ?_
  case refine_2 =>
    intro Q hQ
    simp [sSeq, sIf, sAsg, sRet, sExpr, sNext, sPar, sRaise, sRetN, sDead, ofP, ofB, ofL, pVar, pC, pOp, pUn, pB, pT, pTup, pLst, aNil, aCons, bAnd_eq, bOr_eq, bNot, pIf_eq, pCall, pFn, oLen,  dAt, dFld, dDic, oIsN, oNotN, isN, asB_bl, dI, dI2, gNm, gFld, gTup2, gKey, gIx, tTupE, tLstE, tLstM, tACons, tCallF, tMethF, tMakeF, tBin, tListM, tApp, tDic, tAll, tIfE, tAndB, tOrB, tTst, tB1, tNotB, setF, startD, oList, vAnd_eq, vOr_eq, vNot, dTru, tRng1, oAll, tUnE, tDead, bDead, sFldU, sNmU, pSl, oSome, oNone, oMin, oMax, asI, pCh_eq, cutD_mid, cutD_to, cutD_from, band15, band255, oInt_int,
 dLst_lst, dTup_tup, dLen_lst, dLen_tup, dSeq_lst, dSeq_tup, dSeq_scr, dIx_lst, dIx_tup, at0, at1, at2, at3, at4, at5, at6, at7, dEq_int, dEq_str, dEq_bl, dEq_nn, dEq_ni, dEq_in, dEq_ns, dEq_sn, dEq_is, dEq_si, dNe_int, dNe_str, dNe_ni, dNe_in, dAdd_int,
 isi_bool_non, isi_bool_bl, isi_bool_int, isi_bool_str, isi_bool_lst, isi_bool_tup, isi_bool_dic, isi_int_non, isi_int_bl, isi_int_int, isi_int_str, isi_int_lst, isi_int_tup, isi_int_dic, isi_str_non, isi_str_bl, isi_str_int, isi_str_str, isi_str_lst, isi_str_tup, isi_str_dic, isi_list_non, isi_list_bl, isi_list_int, isi_list_str, isi_list_lst, isi_list_tup, isi_list_dic, isi_tuple_non, isi_tuple_bl, isi_tuple_int, isi_tuple_str, isi_tuple_lst, isi_tuple_tup, isi_tuple_dic, isi_dict_non, isi_dict_bl, isi_dict_int, isi_dict_str, isi_dict_lst, isi_dict_tup, isi_dict_dic,
 List.map_cons, List.map_nil, List.replicate, List.cons_append, List.nil_append, List.append_nil, List.getElem?_cons_zero, List.getElem?_cons_succ, List.getElem?_nil, List.set_cons_zero, List.set_cons_succ, List.set_nil, List.length_cons, List.length_nil, Option.bind_some, Option.bind_none, Option.map_some, Option.map_none, Option.some.injEq, List.cons.injEq, and_true, true_and, and_assoc, exists_eq_left, exists_eq_left', exists_eq_right, exists_eq_right', exists_and_left, exists_const, if_true, if_false, Bool.false_eq_true, reduceCtorEq, put_same, put_put, Dt.int.injEq, Dt.bl.injEq, Dt.adr.injEq, Dt.tup.injEq, Dt.lst.injEq, Dt.str.injEq, decide_eq_true_eq, Bool.not_true, Bool.not_false, tLcE]
    refine ⟨aD, 8, rfl, hD, by omega, by omega, fun v S1 v0 v1 h1 f1 => ?_⟩
    have o : ∃ n : Nat, 1 ≤ n ∧ n ≤ 200 ∧ atI [Dt.int 1, Dt.int 7, Dt.int 8, Dt.int 13, Dt.int 14, Dt.int 40, Dt.int 120, Dt.int 200] v = some (Dt.int n) := by
      have : v = 0 ∨ v = 1 ∨ v = 2 ∨ v = 3 ∨ v = 4 ∨ v = 5 ∨ v = 6 ∨ v = 7 := by omega
      rcases this with rfl | rfl | rfl | rfl | rfl | rfl | rfl | rfl
      · exact ⟨1, by omega, by omega, rfl⟩
      · exact ⟨7, by omega, by omega, rfl⟩
      · exact ⟨8, by omega, by omega, rfl⟩
      · exact ⟨13, by omega, by omega, rfl⟩
      · exact ⟨14, by omega, by omega, rfl⟩
      · exact ⟨40, by omega, by omega, rfl⟩
      · exact ⟨120, by omega, by omega, rfl⟩
      · exact ⟨200, by omega, by omega, rfl⟩
    obtain ⟨n, hn1, hn2, en⟩ := o
    simp [sSeq, sIf, sAsg, sRet, sExpr, sNext, sPar, sRaise, sRetN, sDead, ofP, ofB, ofL, pVar, pC, pOp, pUn, pB, pT, pTup, pLst, aNil, aCons, bAnd_eq, bOr_eq, bNot, pIf_eq, pCall, pFn, oLen,  dAt, dFld, dDic, oIsN, oNotN, isN, asB_bl, dI, dI2, gNm, gFld, gTup2, gKey, gIx, tTupE, tLstE, tLstM, tACons, tCallF, tMethF, tMakeF, tBin, tListM, tApp, tDic, tAll, tIfE, tAndB, tOrB, tTst, tB1, tNotB, setF, startD, oList, vAnd_eq, vOr_eq, vNot, dTru, tRng1, oAll, tUnE, tDead, bDead, sFldU, sNmU, pSl, oSome, oNone, oMin, oMax, asI, pCh_eq, cutD_mid, cutD_to, cutD_from, band15, band255, oInt_int,
 dLst_lst, dTup_tup, dLen_lst, dLen_tup, dSeq_lst, dSeq_tup, dSeq_scr, dIx_lst, dIx_tup, at0, at1, at2, at3, at4, at5, at6, at7, dEq_int, dEq_str, dEq_bl, dEq_nn, dEq_ni, dEq_in, dEq_ns, dEq_sn, dEq_is, dEq_si, dNe_int, dNe_str, dNe_ni, dNe_in, dAdd_int,
 isi_bool_non, isi_bool_bl, isi_bool_int, isi_bool_str, isi_bool_lst, isi_bool_tup, isi_bool_dic, isi_int_non, isi_int_bl, isi_int_int, isi_int_str, isi_int_lst, isi_int_tup, isi_int_dic, isi_str_non, isi_str_bl, isi_str_int, isi_str_str, isi_str_lst, isi_str_tup, isi_str_dic, isi_list_non, isi_list_bl, isi_list_int, isi_list_str, isi_list_lst, isi_list_tup, isi_list_dic, isi_tuple_non, isi_tuple_bl, isi_tuple_int, isi_tuple_str, isi_tuple_lst, isi_tuple_tup, isi_tuple_dic, isi_dict_non, isi_dict_bl, isi_dict_int, isi_dict_str, isi_dict_lst, isi_dict_tup, isi_dict_dic,
 List.map_cons, List.map_nil, List.replicate, List.cons_append, List.nil_append, List.append_nil, List.getElem?_cons_zero, List.getElem?_cons_succ, List.getElem?_nil, List.set_cons_zero, List.set_cons_succ, List.set_nil, List.length_cons, List.length_nil, Option.bind_some, Option.bind_none, Option.map_some, Option.map_none, Option.some.injEq, List.cons.injEq, and_true, true_and, and_assoc, exists_eq_left, exists_eq_left', exists_eq_right, exists_eq_right', exists_and_left, exists_const, if_true, if_false, Bool.false_eq_true, reduceCtorEq, put_same, put_put, Dt.int.injEq, Dt.bl.injEq, Dt.adr.injEq, Dt.tup.injEq, Dt.lst.injEq, Dt.str.injEq, decide_eq_true_eq, Bool.not_true, Bool.not_false, en]
    refine ⟨by omega, by simp [rng]; omega, _, lc_rng (h := fun i => (7 * i + turn) % 256) (fun i => ⟨rfl, ?_⟩) n, hQ _ _ ⟨(List.range n).map fun (i : Nat) => (7 * (i : Int) + turn) % 256, by simp; omega, by simp; omega, rfl, h1⟩⟩
    simp [sSeq, sIf, sAsg, sRet, sExpr, sNext, sPar, sRaise, sRetN, sDead, ofP, ofB, ofL, pVar, pC, pOp, pUn, pB, pT, pTup, pLst, aNil, aCons, bAnd_eq, bOr_eq, bNot, pIf_eq, pCall, pFn, oLen,  dAt, dFld, dDic, oIsN, oNotN, isN, asB_bl, dI, dI2, gNm, gFld, gTup2, gKey, gIx, tTupE, tLstE, tLstM, tACons, tCallF, tMethF, tMakeF, tBin, tListM, tApp, tDic, tAll, tIfE, tAndB, tOrB, tTst, tB1, tNotB, setF, startD, oList, vAnd_eq, vOr_eq, vNot, dTru, tRng1, oAll, tUnE, tDead, bDead, sFldU, sNmU, pSl, oSome, oNone, oMin, oMax, asI, pCh_eq, cutD_mid, cutD_to, cutD_from, band15, band255, oInt_int,
 dLst_lst, dTup_tup, dLen_lst, dLen_tup, dSeq_lst, dSeq_tup, dSeq_scr, dIx_lst, dIx_tup, at0, at1, at2, at3, at4, at5, at6, at7, dEq_int, dEq_str, dEq_bl, dEq_nn, dEq_ni, dEq_in, dEq_ns, dEq_sn, dEq_is, dEq_si, dNe_int, dNe_str, dNe_ni, dNe_in, dAdd_int,
 isi_bool_non, isi_bool_bl, isi_bool_int, isi_bool_str, isi_bool_lst, isi_bool_tup, isi_bool_dic, isi_int_non, isi_int_bl, isi_int_int, isi_int_str, isi_int_lst, isi_int_tup, isi_int_dic, isi_str_non, isi_str_bl, isi_str_int, isi_str_str, isi_str_lst, isi_str_tup, isi_str_dic, isi_list_non, isi_list_bl, isi_list_int, isi_list_str, isi_list_lst, isi_list_tup, isi_list_dic, isi_tuple_non, isi_tuple_bl, isi_tuple_int, isi_tuple_str, isi_tuple_lst, isi_tuple_tup, isi_tuple_dic, isi_dict_non, isi_dict_bl, isi_dict_int, isi_dict_str, isi_dict_lst, isi_dict_tup, isi_dict_dic,
 List.map_cons, List.map_nil, List.replicate, List.cons_append, List.nil_append, List.append_nil, List.getElem?_cons_zero, List.getElem?_cons_succ, List.getElem?_nil, List.set_cons_zero, List.set_cons_succ, List.set_nil, List.length_cons, List.length_nil, Option.bind_some, Option.bind_none, Option.map_some, Option.map_none, Option.some.injEq, List.cons.injEq, and_true, true_and, and_assoc, exists_eq_left, exists_eq_left', exists_eq_right, exists_eq_right', exists_and_left, exists_const, if_true, if_false, Bool.false_eq_true, reduceCtorEq, put_same, put_put, Dt.int.injEq, Dt.bl.injEq, Dt.adr.injEq, Dt.tup.injEq, Dt.lst.injEq, Dt.str.injEq, decide_eq_true_eq, Bool.not_true, Bool.not_false, G1, wipeD, dMul_l]
  rintro _ S ⟨data, d1, d2, rfl, hD⟩
  -- waits
  refine seqI (fun ds' S' => ∃ w : Int, ds' = ev ns aD [some (.int turn), some (il data), x4, some (.int w), x6, x7, x8, x9, x10, x11, x12, x13, x14, x15] ∧ DrAt S' aD) ?_ ?_
  case refine_2 =>
    intro Q hQ
    simp [sSeq, sIf, sAsg, sRet, sExpr, sNext, sPar, sRaise, sRetN, sDead, ofP, ofB, ofL, pVar, pC, pOp, pUn, pB, pT, pTup, pLst, aNil, aCons, bAnd_eq, bOr_eq, bNot, pIf_eq, pCall, pFn, oLen,  dAt, dFld, dDic, oIsN, oNotN, isN, asB_bl, dI, dI2, gNm, gFld, gTup2, gKey, gIx, tTupE, tLstE, tLstM, tACons, tCallF, tMethF, tMakeF, tBin, tListM, tApp, tDic, tAll, tIfE, tAndB, tOrB, tTst, tB1, tNotB, setF, startD, oList, vAnd_eq, vOr_eq, vNot, dTru, tRng1, oAll, tUnE, tDead, bDead, sFldU, sNmU, pSl, oSome, oNone, oMin, oMax, asI, pCh_eq, cutD_mid, cutD_to, cutD_from, band15, band255, oInt_int,
 dLst_lst, dTup_tup, dLen_lst, dLen_tup, dSeq_lst, dSeq_tup, dSeq_scr, dIx_lst, dIx_tup, at0, at1, at2, at3, at4, at5, at6, at7, dEq_int, dEq_str, dEq_bl, dEq_nn, dEq_ni, dEq_in, dEq_ns, dEq_sn, dEq_is, dEq_si, dNe_int, dNe_str, dNe_ni, dNe_in, dAdd_int,
 isi_bool_non, isi_bool_bl, isi_bool_int, isi_bool_str, isi_bool_lst, isi_bool_tup, isi_bool_dic, isi_int_non, isi_int_bl, isi_int_int, isi_int_str, isi_int_lst, isi_int_tup, isi_int_dic, isi_str_non, isi_str_bl, isi_str_int, isi_str_str, isi_str_lst, isi_str_tup, isi_str_dic, isi_list_non, isi_list_bl, isi_list_int, isi_list_str, isi_list_lst, isi_list_tup, isi_list_dic, isi_tuple_non, isi_tuple_bl, isi_tuple_int, isi_tuple_str, isi_tuple_lst, isi_tuple_tup, isi_tuple_dic, isi_dict_non, isi_dict_bl, isi_dict_int, isi_dict_str, isi_dict_lst, isi_dict_tup, isi_dict_dic,
 List.map_cons, List.map_nil, List.replicate, List.cons_append, List.nil_append, List.append_nil, List.getElem?_cons_zero, List.getElem?_cons_succ, List.getElem?_nil, List.set_cons_zero, List.set_cons_succ, List.set_nil, List.length_cons, List.length_nil, Option.bind_some, Option.bind_none, Option.map_some, Option.map_none, Option.some.injEq, List.cons.injEq, and_true, true_and, and_assoc, exists_eq_left, exists_eq_left', exists_eq_right, exists_eq_right', exists_and_left, exists_const, if_true, if_false, Bool.false_eq_true, reduceCtorEq, put_same, put_put, Dt.int.injEq, Dt.bl.injEq, Dt.adr.injEq, Dt.tup.injEq, Dt.lst.injEq, Dt.str.injEq, decide_eq_true_eq, Bool.not_true, Bool.not_false]
    exact ⟨aD, 4, rfl, hD, by omega, by omega, fun v S1 v0 v1 h1 f1 => hQ _ _ ⟨_, rfl, h1⟩⟩
  rintro _ S ⟨w, rfl, hD⟩
  -- given
  refine seqI (fun ds' S' => ∃ g, ds' = ev ns aD [some (.int turn), some (il data), x4, some (.int w), some (.adr g), x7, x8, x9, x10, x11, x12, x13, x14, x15] ∧ DrAt S' aD ∧ S' g = some (.lst (data.map Dt.int)) ∧ aD ≠ g) ?_ ?_
  case refine_2 =>
    intro Q hQ
    simp [sSeq, sIf, sAsg, sRet, sExpr, sNext, sPar, sRaise, sRetN, sDead, ofP, ofB, ofL, pVar, pC, pOp, pUn, pB, pT, pTup, pLst, aNil, aCons, bAnd_eq, bOr_eq, bNot, pIf_eq, pCall, pFn, oLen,  dAt, dFld, dDic, oIsN, oNotN, isN, asB_bl, dI, dI2, gNm, gFld, gTup2, gKey, gIx, tTupE, tLstE, tLstM, tACons, tCallF, tMethF, tMakeF, tBin, tListM, tApp, tDic, tAll, tIfE, tAndB, tOrB, tTst, tB1, tNotB, setF, startD, oList, vAnd_eq, vOr_eq, vNot, dTru, tRng1, oAll, tUnE, tDead, bDead, sFldU, sNmU, pSl, oSome, oNone, oMin, oMax, asI, pCh_eq, cutD_mid, cutD_to, cutD_from, band15, band255, oInt_int,
 dLst_lst, dTup_tup, dLen_lst, dLen_tup, dSeq_lst, dSeq_tup, dSeq_scr, dIx_lst, dIx_tup, at0, at1, at2, at3, at4, at5, at6, at7, dEq_int, dEq_str, dEq_bl, dEq_nn, dEq_ni, dEq_in, dEq_ns, dEq_sn, dEq_is, dEq_si, dNe_int, dNe_str, dNe_ni, dNe_in, dAdd_int,
 isi_bool_non, isi_bool_bl, isi_bool_int, isi_bool_str, isi_bool_lst, isi_bool_tup, isi_bool_dic, isi_int_non, isi_int_bl, isi_int_int, isi_int_str, isi_int_lst, isi_int_tup, isi_int_dic, isi_str_non, isi_str_bl, isi_str_int, isi_str_str, isi_str_lst, isi_str_tup, isi_str_dic, isi_list_non, isi_list_bl, isi_list_int, isi_list_str, isi_list_lst, isi_list_tup, isi_list_dic, isi_tuple_non, isi_tuple_bl, isi_tuple_int, isi_tuple_str, isi_tuple_lst, isi_tuple_tup, isi_tuple_dic, isi_dict_non, isi_dict_bl, isi_dict_int, isi_dict_str, isi_dict_lst, isi_dict_tup, isi_dict_dic,
 List.map_cons, List.map_nil, List.replicate, List.cons_append, List.nil_append, List.append_nil, List.getElem?_cons_zero, List.getElem?_cons_succ, List.getElem?_nil, List.set_cons_zero, List.set_cons_succ, List.set_nil, List.length_cons, List.length_nil, Option.bind_some, Option.bind_none, Option.map_some, Option.map_none, Option.some.injEq, List.cons.injEq, and_true, true_and, and_assoc, exists_eq_left, exists_eq_left', exists_eq_right, exists_eq_right', exists_and_left, exists_const, if_true, if_false, Bool.false_eq_true, reduceCtorEq, put_same, put_put, Dt.int.injEq, Dt.bl.injEq, Dt.adr.injEq, Dt.tup.injEq, Dt.lst.injEq, Dt.str.injEq, decide_eq_true_eq, Bool.not_true, Bool.not_false, il]
    intro p hp
    have ne : aD ≠ p := fun z => by
      obtain ⟨_, _, _, _, h, _⟩ := hD
      rw [z, hp] at h
      cases h
    exact hQ _ _ ⟨p, rfl, hD.fr fr_put ne, put_same, ne⟩
  rintro _ S ⟨g, rfl, hD, hg, ng⟩
  -- sender, own
  refine seqI (fun ds' S' => ∃ aS c aO, ds' = ev ns aD [some (.int turn), some (il data), x4, some (.int w), some (.adr g), some (.adr aS), some (.adr aO), x9, x10, x11, x12, x13, x14, x15] ∧ I4 A S' aD aS c aO (newM data w) (newM data w) ∧ S' g = some (.lst (data.map Dt.int)) ∧ aD ≠ g ∧ aS ≠ g ∧ c ≠ g ∧ aO ≠ g) ?_ ?_
  case refine_2 =>
    intro Q hQ
    obtain ⟨cells, ci, cj, cs, hD1, hD2⟩ := hD
    simp [sSeq, sIf, sAsg, sRet, sExpr, sNext, sPar, sRaise, sRetN, sDead, ofP, ofB, ofL, pVar, pC, pOp, pUn, pB, pT, pTup, pLst, aNil, aCons, bAnd_eq, bOr_eq, bNot, pIf_eq, pCall, pFn, oLen,  dAt, dFld, dDic, oIsN, oNotN, isN, asB_bl, dI, dI2, gNm, gFld, gTup2, gKey, gIx, tTupE, tLstE, tLstM, tACons, tCallF, tMethF, tMakeF, tBin, tListM, tApp, tDic, tAll, tIfE, tAndB, tOrB, tTst, tB1, tNotB, setF, startD, oList, vAnd_eq, vOr_eq, vNot, dTru, tRng1, oAll, tUnE, tDead, bDead, sFldU, sNmU, pSl, oSome, oNone, oMin, oMax, asI, pCh_eq, cutD_mid, cutD_to, cutD_from, band15, band255, oInt_int,
 dLst_lst, dTup_tup, dLen_lst, dLen_tup, dSeq_lst, dSeq_tup, dSeq_scr, dIx_lst, dIx_tup, at0, at1, at2, at3, at4, at5, at6, at7, dEq_int, dEq_str, dEq_bl, dEq_nn, dEq_ni, dEq_in, dEq_ns, dEq_sn, dEq_is, dEq_si, dNe_int, dNe_str, dNe_ni, dNe_in, dAdd_int,
 isi_bool_non, isi_bool_bl, isi_bool_int, isi_bool_str, isi_bool_lst, isi_bool_tup, isi_bool_dic, isi_int_non, isi_int_bl, isi_int_int, isi_int_str, isi_int_lst, isi_int_tup, isi_int_dic, isi_str_non, isi_str_bl, isi_str_int, isi_str_str, isi_str_lst, isi_str_tup, isi_str_dic, isi_list_non, isi_list_bl, isi_list_int, isi_list_str, isi_list_lst, isi_list_tup, isi_list_dic, isi_tuple_non, isi_tuple_bl, isi_tuple_int, isi_tuple_str, isi_tuple_lst, isi_tuple_tup, isi_tuple_dic, isi_dict_non, isi_dict_bl, isi_dict_int, isi_dict_str, isi_dict_lst, isi_dict_tup, isi_dict_dic,
 List.map_cons, List.map_nil, List.replicate, List.cons_append, List.nil_append, List.append_nil, List.getElem?_cons_zero, List.getElem?_cons_succ, List.getElem?_nil, List.set_cons_zero, List.set_cons_succ, List.set_nil, List.length_cons, List.length_nil, Option.bind_some, Option.bind_none, Option.map_some, Option.map_none, Option.some.injEq, List.cons.injEq, and_true, true_and, and_assoc, exists_eq_left, exists_eq_left', exists_eq_right, exists_eq_right', exists_and_left, exists_const, if_true, if_false, Bool.false_eq_true, reduceCtorEq, put_same, put_put, Dt.int.injEq, Dt.bl.injEq, Dt.adr.injEq, Dt.tup.injEq, Dt.lst.injEq, Dt.str.injEq, decide_eq_true_eq, Bool.not_true, Bool.not_false, il]
    intro aS ha
    have na : aD ≠ aS := fun z => by
      rw [z, ha] at hD1
      cases hD1
    have nga : g ≠ aS := fun z => by
      rw [z, ha] at hg
      cases hg
    refine ⟨aS, .adr g, data.map Dt.int, w, rfl, put_same, dLst_adr (by rw [put_ne nga]; exact hg), by simp; omega, fun z => absurd ⟨by simp; omega, by simp; omega⟩ z, fun _ c S2 hc h1 h2 h3 h4 => ⟨rfl, data, w, rfl, by omega, fun aO S3 ho h5 f5 => ?_⟩⟩
    have nc : aD ≠ c := fun z => by
      rw [← z, put_ne na, hD1] at hc
      cases hc
    have ngc : g ≠ c := fun z => by
      rw [← z, put_ne nga, hg] at hc
      cases hc
    have d2 : S2 aD = _ := (h4 aD na nc).trans ((put_ne na).trans hD1)
    have g2 : S2 g = _ := (h4 g nga ngc).trans ((put_ne nga).trans hg)
    have no : aD ≠ aO := fun z => by
      rw [← z, d2] at ho
      cases ho
    have ngo : g ≠ aO := fun z => by
      rw [← z, g2] at ho
      cases ho
    have nao : aS ≠ aO := fun z => by
      rw [← z, h1] at ho
      cases ho
    have nco : c ≠ aO := fun z => by
      rw [← z, h2] at ho
      cases ho
    exact hQ _ _ ⟨aS, c, aO, rfl, ⟨⟨cells, ci, cj, cs, (f5 aD no).trans d2, hD2⟩, ⟨⟨0, (f5 aS nao).trans h1, .inl rfl⟩, (f5 c nco).trans h2, h3, h5.2⟩, h5, na, nc, no, nao, nco⟩, (f5 g ngo).trans g2, ng, Ne.symm nga, Ne.symm ngc, Ne.symm ngo⟩
  rintro _ S ⟨aS, c, aO, rfl, h4, hg, ng, ng1, ng2, ng3⟩
  -- given.append
  refine seqI (fun ds' S' => ds' = ev ns aD [some (.int turn), some (il data), x4, some (.int w), some (.adr g), some (.adr aS), some (.adr aO), x9, x10, x11, x12, x13, x14, x15] ∧ I4 A S' aD aS c aO (newM data w) (newM data w)) ?_ ?_
  case refine_2 =>
    intro Q hQ
    have dl : data.length < 1000000 := by omega
    simp [sSeq, sIf, sAsg, sRet, sExpr, sNext, sPar, sRaise, sRetN, sDead, ofP, ofB, ofL, pVar, pC, pOp, pUn, pB, pT, pTup, pLst, aNil, aCons, bAnd_eq, bOr_eq, bNot, pIf_eq, pCall, pFn, oLen,  dAt, dFld, dDic, oIsN, oNotN, isN, asB_bl, dI, dI2, gNm, gFld, gTup2, gKey, gIx, tTupE, tLstE, tLstM, tACons, tCallF, tMethF, tMakeF, tBin, tListM, tApp, tDic, tAll, tIfE, tAndB, tOrB, tTst, tB1, tNotB, setF, startD, oList, vAnd_eq, vOr_eq, vNot, dTru, tRng1, oAll, tUnE, tDead, bDead, sFldU, sNmU, pSl, oSome, oNone, oMin, oMax, asI, pCh_eq, cutD_mid, cutD_to, cutD_from, band15, band255, oInt_int,
 dLst_lst, dTup_tup, dLen_lst, dLen_tup, dSeq_lst, dSeq_tup, dSeq_scr, dIx_lst, dIx_tup, at0, at1, at2, at3, at4, at5, at6, at7, dEq_int, dEq_str, dEq_bl, dEq_nn, dEq_ni, dEq_in, dEq_ns, dEq_sn, dEq_is, dEq_si, dNe_int, dNe_str, dNe_ni, dNe_in, dAdd_int,
 isi_bool_non, isi_bool_bl, isi_bool_int, isi_bool_str, isi_bool_lst, isi_bool_tup, isi_bool_dic, isi_int_non, isi_int_bl, isi_int_int, isi_int_str, isi_int_lst, isi_int_tup, isi_int_dic, isi_str_non, isi_str_bl, isi_str_int, isi_str_str, isi_str_lst, isi_str_tup, isi_str_dic, isi_list_non, isi_list_bl, isi_list_int, isi_list_str, isi_list_lst, isi_list_tup, isi_list_dic, isi_tuple_non, isi_tuple_bl, isi_tuple_int, isi_tuple_str, isi_tuple_lst, isi_tuple_tup, isi_tuple_dic, isi_dict_non, isi_dict_bl, isi_dict_int, isi_dict_str, isi_dict_lst, isi_dict_tup, isi_dict_dic,
 List.map_cons, List.map_nil, List.replicate, List.cons_append, List.nil_append, List.append_nil, List.getElem?_cons_zero, List.getElem?_cons_succ, List.getElem?_nil, List.set_cons_zero, List.set_cons_succ, List.set_nil, List.length_cons, List.length_nil, Option.bind_some, Option.bind_none, Option.map_some, Option.map_none, Option.some.injEq, List.cons.injEq, and_true, true_and, and_assoc, exists_eq_left, exists_eq_left', exists_eq_right, exists_eq_right', exists_and_left, exists_const, if_true, if_false, Bool.false_eq_true, reduceCtorEq, put_same, put_put, Dt.int.injEq, Dt.bl.injEq, Dt.adr.injEq, Dt.tup.injEq, Dt.lst.injEq, Dt.str.injEq, decide_eq_true_eq, Bool.not_true, Bool.not_false, hg, dl]
    exact hQ _ _ ⟨rfl, h4.out fr_put ng ng1 ng2 ng3⟩
  clear hg ng ng1 ng2 ng3 h4
  rintro _ S ⟨rfl, h4⟩
  -- new, None
  refine seqI (fun ds' S' => ds' = ev ns aD [some (.int turn), some (il data), x4, some (.int w), some (.adr g), some (.adr aS), some (.adr aO), x9, x10, x11, x12, x13, x14, x15] ∧ I4 A S' aD aS c aO (newM data w) (newM data w)) ?_ ?_
  case refine_2 =>
    intro Q hQ
    obtain ⟨p, hS, _⟩ := h4.2.1.1
    simp [sSeq, sIf, sAsg, sRet, sExpr, sNext, sPar, sRaise, sRetN, sDead, ofP, ofB, ofL, pVar, pC, pOp, pUn, pB, pT, pTup, pLst, aNil, aCons, bAnd_eq, bOr_eq, bNot, pIf_eq, pCall, pFn, oLen,  dAt, dFld, dDic, oIsN, oNotN, isN, asB_bl, dI, dI2, gNm, gFld, gTup2, gKey, gIx, tTupE, tLstE, tLstM, tACons, tCallF, tMethF, tMakeF, tBin, tListM, tApp, tDic, tAll, tIfE, tAndB, tOrB, tTst, tB1, tNotB, setF, startD, oList, vAnd_eq, vOr_eq, vNot, dTru, tRng1, oAll, tUnE, tDead, bDead, sFldU, sNmU, pSl, oSome, oNone, oMin, oMax, asI, pCh_eq, cutD_mid, cutD_to, cutD_from, band15, band255, oInt_int,
 dLst_lst, dTup_tup, dLen_lst, dLen_tup, dSeq_lst, dSeq_tup, dSeq_scr, dIx_lst, dIx_tup, at0, at1, at2, at3, at4, at5, at6, at7, dEq_int, dEq_str, dEq_bl, dEq_nn, dEq_ni, dEq_in, dEq_ns, dEq_sn, dEq_is, dEq_si, dNe_int, dNe_str, dNe_ni, dNe_in, dAdd_int,
 isi_bool_non, isi_bool_bl, isi_bool_int, isi_bool_str, isi_bool_lst, isi_bool_tup, isi_bool_dic, isi_int_non, isi_int_bl, isi_int_int, isi_int_str, isi_int_lst, isi_int_tup, isi_int_dic, isi_str_non, isi_str_bl, isi_str_int, isi_str_str, isi_str_lst, isi_str_tup, isi_str_dic, isi_list_non, isi_list_bl, isi_list_int, isi_list_str, isi_list_lst, isi_list_tup, isi_list_dic, isi_tuple_non, isi_tuple_bl, isi_tuple_int, isi_tuple_str, isi_tuple_lst, isi_tuple_tup, isi_tuple_dic, isi_dict_non, isi_dict_bl, isi_dict_int, isi_dict_str, isi_dict_lst, isi_dict_tup, isi_dict_dic,
 List.map_cons, List.map_nil, List.replicate, List.cons_append, List.nil_append, List.append_nil, List.getElem?_cons_zero, List.getElem?_cons_succ, List.getElem?_nil, List.set_cons_zero, List.set_cons_succ, List.set_nil, List.length_cons, List.length_nil, Option.bind_some, Option.bind_none, Option.map_some, Option.map_none, Option.some.injEq, List.cons.injEq, and_true, true_and, and_assoc, exists_eq_left, exists_eq_left', exists_eq_right, exists_eq_right', exists_and_left, exists_const, if_true, if_false, Bool.false_eq_true, reduceCtorEq, put_same, put_put, Dt.int.injEq, Dt.bl.injEq, Dt.adr.injEq, Dt.tup.injEq, Dt.lst.injEq, Dt.str.injEq, decide_eq_true_eq, Bool.not_true, Bool.not_false, hS, sp_Sender_due]
    refine ⟨c, newM data w, h4.2.1, .bl true, ?_, ?_⟩
    · simp [g__law_same, sm, sms, newM, oD, short_new]
    · simp [sSeq, sIf, sAsg, sRet, sExpr, sNext, sPar, sRaise, sRetN, sDead, ofP, ofB, ofL, pVar, pC, pOp, pUn, pB, pT, pTup, pLst, aNil, aCons, bAnd_eq, bOr_eq, bNot, pIf_eq, pCall, pFn, oLen,  dAt, dFld, dDic, oIsN, oNotN, isN, asB_bl, dI, dI2, gNm, gFld, gTup2, gKey, gIx, tTupE, tLstE, tLstM, tACons, tCallF, tMethF, tMakeF, tBin, tListM, tApp, tDic, tAll, tIfE, tAndB, tOrB, tTst, tB1, tNotB, setF, startD, oList, vAnd_eq, vOr_eq, vNot, dTru, tRng1, oAll, tUnE, tDead, bDead, sFldU, sNmU, pSl, oSome, oNone, oMin, oMax, asI, pCh_eq, cutD_mid, cutD_to, cutD_from, band15, band255, oInt_int,
 dLst_lst, dTup_tup, dLen_lst, dLen_tup, dSeq_lst, dSeq_tup, dSeq_scr, dIx_lst, dIx_tup, at0, at1, at2, at3, at4, at5, at6, at7, dEq_int, dEq_str, dEq_bl, dEq_nn, dEq_ni, dEq_in, dEq_ns, dEq_sn, dEq_is, dEq_si, dNe_int, dNe_str, dNe_ni, dNe_in, dAdd_int,
 isi_bool_non, isi_bool_bl, isi_bool_int, isi_bool_str, isi_bool_lst, isi_bool_tup, isi_bool_dic, isi_int_non, isi_int_bl, isi_int_int, isi_int_str, isi_int_lst, isi_int_tup, isi_int_dic, isi_str_non, isi_str_bl, isi_str_int, isi_str_str, isi_str_lst, isi_str_tup, isi_str_dic, isi_list_non, isi_list_bl, isi_list_int, isi_list_str, isi_list_lst, isi_list_tup, isi_list_dic, isi_tuple_non, isi_tuple_bl, isi_tuple_int, isi_tuple_str, isi_tuple_lst, isi_tuple_tup, isi_tuple_dic, isi_dict_non, isi_dict_bl, isi_dict_int, isi_dict_str, isi_dict_lst, isi_dict_tup, isi_dict_dic,
 List.map_cons, List.map_nil, List.replicate, List.cons_append, List.nil_append, List.append_nil, List.getElem?_cons_zero, List.getElem?_cons_succ, List.getElem?_nil, List.set_cons_zero, List.set_cons_succ, List.set_nil, List.length_cons, List.length_nil, Option.bind_some, Option.bind_none, Option.map_some, Option.map_none, Option.some.injEq, List.cons.injEq, and_true, true_and, and_assoc, exists_eq_left, exists_eq_left', exists_eq_right, exists_eq_right', exists_and_left, exists_const, if_true, if_false, Bool.false_eq_true, reduceCtorEq, put_same, put_put, Dt.int.injEq, Dt.bl.injEq, Dt.adr.injEq, Dt.tup.injEq, Dt.lst.injEq, Dt.str.injEq, decide_eq_true_eq, Bool.not_true, Bool.not_false]
      exact hQ _ _ ⟨rfl, h4⟩
  clear h4
  rintro _ S ⟨rfl, h4⟩
  -- now
  refine seqI (fun ds' S' => ∃ now : Int, 0 ≤ now ∧ ds' = ev ns aD [some (.int turn), some (il data), x4, some (.int w), some (.adr g), some (.adr aS), some (.adr aO), some (.int now), x10, x11, x12, x13, x14, x15] ∧ I4 A S' aD aS c aO (newM data w) (newM data w)) ?_ ?_
  case refine_2 =>
    intro Q hQ
    simp [sSeq, sIf, sAsg, sRet, sExpr, sNext, sPar, sRaise, sRetN, sDead, ofP, ofB, ofL, pVar, pC, pOp, pUn, pB, pT, pTup, pLst, aNil, aCons, bAnd_eq, bOr_eq, bNot, pIf_eq, pCall, pFn, oLen,  dAt, dFld, dDic, oIsN, oNotN, isN, asB_bl, dI, dI2, gNm, gFld, gTup2, gKey, gIx, tTupE, tLstE, tLstM, tACons, tCallF, tMethF, tMakeF, tBin, tListM, tApp, tDic, tAll, tIfE, tAndB, tOrB, tTst, tB1, tNotB, setF, startD, oList, vAnd_eq, vOr_eq, vNot, dTru, tRng1, oAll, tUnE, tDead, bDead, sFldU, sNmU, pSl, oSome, oNone, oMin, oMax, asI, pCh_eq, cutD_mid, cutD_to, cutD_from, band15, band255, oInt_int,
 dLst_lst, dTup_tup, dLen_lst, dLen_tup, dSeq_lst, dSeq_tup, dSeq_scr, dIx_lst, dIx_tup, at0, at1, at2, at3, at4, at5, at6, at7, dEq_int, dEq_str, dEq_bl, dEq_nn, dEq_ni, dEq_in, dEq_ns, dEq_sn, dEq_is, dEq_si, dNe_int, dNe_str, dNe_ni, dNe_in, dAdd_int,
 isi_bool_non, isi_bool_bl, isi_bool_int, isi_bool_str, isi_bool_lst, isi_bool_tup, isi_bool_dic, isi_int_non, isi_int_bl, isi_int_int, isi_int_str, isi_int_lst, isi_int_tup, isi_int_dic, isi_str_non, isi_str_bl, isi_str_int, isi_str_str, isi_str_lst, isi_str_tup, isi_str_dic, isi_list_non, isi_list_bl, isi_list_int, isi_list_str, isi_list_lst, isi_list_tup, isi_list_dic, isi_tuple_non, isi_tuple_bl, isi_tuple_int, isi_tuple_str, isi_tuple_lst, isi_tuple_tup, isi_tuple_dic, isi_dict_non, isi_dict_bl, isi_dict_int, isi_dict_str, isi_dict_lst, isi_dict_tup, isi_dict_dic,
 List.map_cons, List.map_nil, List.replicate, List.cons_append, List.nil_append, List.append_nil, List.getElem?_cons_zero, List.getElem?_cons_succ, List.getElem?_nil, List.set_cons_zero, List.set_cons_succ, List.set_nil, List.length_cons, List.length_nil, Option.bind_some, Option.bind_none, Option.map_some, Option.map_none, Option.some.injEq, List.cons.injEq, and_true, true_and, and_assoc, exists_eq_left, exists_eq_left', exists_eq_right, exists_eq_right', exists_and_left, exists_const, if_true, if_false, Bool.false_eq_true, reduceCtorEq, put_same, put_put, Dt.int.injEq, Dt.bl.injEq, Dt.adr.injEq, Dt.tup.injEq, Dt.lst.injEq, Dt.str.injEq, decide_eq_true_eq, Bool.not_true, Bool.not_false]
    exact ⟨aD, 50, rfl, h4.1, by omega, by omega, fun v S1 v0 v1 h1 f1 => hQ _ _ ⟨_, v0, rfl, h4.dr h1 f1⟩⟩
  clear h4
  rintro _ S ⟨now, n0, rfl, h4⟩
  -- begin
  refine seqI (Inv1 A ns) ?_ ?_
  case refine_2 =>
    intro Q hQ
    obtain ⟨g1, g2, g3⟩ := start_good (m := newM data w) (t := now) h4.2.2.1.2 rfl
    simp [sSeq, sIf, sAsg, sRet, sExpr, sNext, sPar, sRaise, sRetN, sDead, ofP, ofB, ofL, pVar, pC, pOp, pUn, pB, pT, pTup, pLst, aNil, aCons, bAnd_eq, bOr_eq, bNot, pIf_eq, pCall, pFn, oLen,  dAt, dFld, dDic, oIsN, oNotN, isN, asB_bl, dI, dI2, gNm, gFld, gTup2, gKey, gIx, tTupE, tLstE, tLstM, tACons, tCallF, tMethF, tMakeF, tBin, tListM, tApp, tDic, tAll, tIfE, tAndB, tOrB, tTst, tB1, tNotB, setF, startD, oList, vAnd_eq, vOr_eq, vNot, dTru, tRng1, oAll, tUnE, tDead, bDead, sFldU, sNmU, pSl, oSome, oNone, oMin, oMax, asI, pCh_eq, cutD_mid, cutD_to, cutD_from, band15, band255, oInt_int,
 dLst_lst, dTup_tup, dLen_lst, dLen_tup, dSeq_lst, dSeq_tup, dSeq_scr, dIx_lst, dIx_tup, at0, at1, at2, at3, at4, at5, at6, at7, dEq_int, dEq_str, dEq_bl, dEq_nn, dEq_ni, dEq_in, dEq_ns, dEq_sn, dEq_is, dEq_si, dNe_int, dNe_str, dNe_ni, dNe_in, dAdd_int,
 isi_bool_non, isi_bool_bl, isi_bool_int, isi_bool_str, isi_bool_lst, isi_bool_tup, isi_bool_dic, isi_int_non, isi_int_bl, isi_int_int, isi_int_str, isi_int_lst, isi_int_tup, isi_int_dic, isi_str_non, isi_str_bl, isi_str_int, isi_str_str, isi_str_lst, isi_str_tup, isi_str_dic, isi_list_non, isi_list_bl, isi_list_int, isi_list_str, isi_list_lst, isi_list_tup, isi_list_dic, isi_tuple_non, isi_tuple_bl, isi_tuple_int, isi_tuple_str, isi_tuple_lst, isi_tuple_tup, isi_tuple_dic, isi_dict_non, isi_dict_bl, isi_dict_int, isi_dict_str, isi_dict_lst, isi_dict_tup, isi_dict_dic,
 List.map_cons, List.map_nil, List.replicate, List.cons_append, List.nil_append, List.append_nil, List.getElem?_cons_zero, List.getElem?_cons_succ, List.getElem?_nil, List.set_cons_zero, List.set_cons_succ, List.set_nil, List.length_cons, List.length_nil, Option.bind_some, Option.bind_none, Option.map_some, Option.map_none, Option.some.injEq, List.cons.injEq, and_true, true_and, and_assoc, exists_eq_left, exists_eq_left', exists_eq_right, exists_eq_right', exists_and_left, exists_const, if_true, if_false, Bool.false_eq_true, reduceCtorEq, put_same, put_put, Dt.int.injEq, Dt.bl.injEq, Dt.adr.injEq, Dt.tup.injEq, Dt.lst.injEq, Dt.str.injEq, decide_eq_true_eq, Bool.not_true, Bool.not_false]
    have n2 : ¬ (("begin" : Str) = "get") := by decide
    have e : calledM (newM data w) "begin" [] now = some ((startM (newM data w) now).1, .tup [.str "told", rowsD (startM (newM data w) now).2]) := by
      have e1 : ¬ now < (newM data w).now := by show ¬ now < 0; omega
      have e2 : (newM data w).state = "new" := rfl
      simp only [calledM, e1, e2, n2, if_true, if_false]
    refine ⟨aS, c, newM data w, "begin", .non, [], now, rfl, by simp, h4.2.1, .inl rfl, fun z => absurd z n2, _, e, fun S1 h1 f1 => ?_⟩
    have i1 := h4.se h1 f1
    refine ⟨aO, newM data w, now, rfl, i1.2.2.1, rfl, rfl, rfl, fun S2 h2 f2 => ?_⟩
    have i2 := i1.ow h2 f2
    have hs : sm S2 8 (.tup [.str "told", rowsD (startM (newM data w) now).2]) (.tup [.str "told", rowsD (startM (newM data w) now).2]) = true := sm_told (sm_rows g2 (by rw [g3]; decide))
    refine ⟨.bl true, ?_, ?_⟩
    · simp only [g__law_same, hs, if_true]
    · simp [sSeq, sIf, sAsg, sRet, sExpr, sNext, sPar, sRaise, sRetN, sDead, ofP, ofB, ofL, pVar, pC, pOp, pUn, pB, pT, pTup, pLst, aNil, aCons, bAnd_eq, bOr_eq, bNot, pIf_eq, pCall, pFn, oLen,  dAt, dFld, dDic, oIsN, oNotN, isN, asB_bl, dI, dI2, gNm, gFld, gTup2, gKey, gIx, tTupE, tLstE, tLstM, tACons, tCallF, tMethF, tMakeF, tBin, tListM, tApp, tDic, tAll, tIfE, tAndB, tOrB, tTst, tB1, tNotB, setF, startD, oList, vAnd_eq, vOr_eq, vNot, dTru, tRng1, oAll, tUnE, tDead, bDead, sFldU, sNmU, pSl, oSome, oNone, oMin, oMax, asI, pCh_eq, cutD_mid, cutD_to, cutD_from, band15, band255, oInt_int,
 dLst_lst, dTup_tup, dLen_lst, dLen_tup, dSeq_lst, dSeq_tup, dSeq_scr, dIx_lst, dIx_tup, at0, at1, at2, at3, at4, at5, at6, at7, dEq_int, dEq_str, dEq_bl, dEq_nn, dEq_ni, dEq_in, dEq_ns, dEq_sn, dEq_is, dEq_si, dNe_int, dNe_str, dNe_ni, dNe_in, dAdd_int,
 isi_bool_non, isi_bool_bl, isi_bool_int, isi_bool_str, isi_bool_lst, isi_bool_tup, isi_bool_dic, isi_int_non, isi_int_bl, isi_int_int, isi_int_str, isi_int_lst, isi_int_tup, isi_int_dic, isi_str_non, isi_str_bl, isi_str_int, isi_str_str, isi_str_lst, isi_str_tup, isi_str_dic, isi_list_non, isi_list_bl, isi_list_int, isi_list_str, isi_list_lst, isi_list_tup, isi_list_dic, isi_tuple_non, isi_tuple_bl, isi_tuple_int, isi_tuple_str, isi_tuple_lst, isi_tuple_tup, isi_tuple_dic, isi_dict_non, isi_dict_bl, isi_dict_int, isi_dict_str, isi_dict_lst, isi_dict_tup, isi_dict_dic,
 List.map_cons, List.map_nil, List.replicate, List.cons_append, List.nil_append, List.append_nil, List.getElem?_cons_zero, List.getElem?_cons_succ, List.getElem?_nil, List.set_cons_zero, List.set_cons_succ, List.set_nil, List.length_cons, List.length_nil, Option.bind_some, Option.bind_none, Option.map_some, Option.map_none, Option.some.injEq, List.cons.injEq, and_true, true_and, and_assoc, exists_eq_left, exists_eq_left', exists_eq_right, exists_eq_right', exists_and_left, exists_const, if_true, if_false, Bool.false_eq_true, reduceCtorEq, put_same, put_put, Dt.int.injEq, Dt.bl.injEq, Dt.adr.injEq, Dt.tup.injEq, Dt.lst.injEq, Dt.str.injEq, decide_eq_true_eq, Bool.not_true, Bool.not_false]
      exact hQ _ _ ⟨aD, aS, c, aO, _, _, _, _, _, _, _, _, _, _, _, _, _, rfl, i2, g1⟩
  clear h4 n0
  intro ds S hI
  simp only [sFor]
  obtain ⟨aD, aS, c, aO, m, x2, x3, x4, x5, x6, x9, x10, x11, x12, x13, x14, x15, rfl, h4, gm⟩ := hI
  simp [sSeq, sIf, sAsg, sRet, sExpr, sNext, sPar, sRaise, sRetN, sDead, ofP, ofB, ofL, pVar, pC, pOp, pUn, pB, pT, pTup, pLst, aNil, aCons, bAnd_eq, bOr_eq, bNot, pIf_eq, pCall, pFn, oLen,  dAt, dFld, dDic, oIsN, oNotN, isN, asB_bl, dI, dI2, gNm, gFld, gTup2, gKey, gIx, tTupE, tLstE, tLstM, tACons, tCallF, tMethF, tMakeF, tBin, tListM, tApp, tDic, tAll, tIfE, tAndB, tOrB, tTst, tB1, tNotB, setF, startD, oList, vAnd_eq, vOr_eq, vNot, dTru, tRng1, oAll, tUnE, tDead, bDead, sFldU, sNmU, pSl, oSome, oNone, oMin, oMax, asI, pCh_eq, cutD_mid, cutD_to, cutD_from, band15, band255, oInt_int,
 dLst_lst, dTup_tup, dLen_lst, dLen_tup, dSeq_lst, dSeq_tup, dSeq_scr, dIx_lst, dIx_tup, at0, at1, at2, at3, at4, at5, at6, at7, dEq_int, dEq_str, dEq_bl, dEq_nn, dEq_ni, dEq_in, dEq_ns, dEq_sn, dEq_is, dEq_si, dNe_int, dNe_str, dNe_ni, dNe_in, dAdd_int,
 isi_bool_non, isi_bool_bl, isi_bool_int, isi_bool_str, isi_bool_lst, isi_bool_tup, isi_bool_dic, isi_int_non, isi_int_bl, isi_int_int, isi_int_str, isi_int_lst, isi_int_tup, isi_int_dic, isi_str_non, isi_str_bl, isi_str_int, isi_str_str, isi_str_lst, isi_str_tup, isi_str_dic, isi_list_non, isi_list_bl, isi_list_int, isi_list_str, isi_list_lst, isi_list_tup, isi_list_dic, isi_tuple_non, isi_tuple_bl, isi_tuple_int, isi_tuple_str, isi_tuple_lst, isi_tuple_tup, isi_tuple_dic, isi_dict_non, isi_dict_bl, isi_dict_int, isi_dict_str, isi_dict_lst, isi_dict_tup, isi_dict_dic,
 List.map_cons, List.map_nil, List.replicate, List.cons_append, List.nil_append, List.append_nil, List.getElem?_cons_zero, List.getElem?_cons_succ, List.getElem?_nil, List.set_cons_zero, List.set_cons_succ, List.set_nil, List.length_cons, List.length_nil, Option.bind_some, Option.bind_none, Option.map_some, Option.map_none, Option.some.injEq, List.cons.injEq, and_true, true_and, and_assoc, exists_eq_left, exists_eq_left', exists_eq_right, exists_eq_right', exists_and_left, exists_const, if_true, if_false, Bool.false_eq_true, reduceCtorEq, put_same, put_put, Dt.int.injEq, Dt.bl.injEq, Dt.adr.injEq, Dt.tup.injEq, Dt.lst.injEq, Dt.str.injEq, decide_eq_true_eq, Bool.not_true, Bool.not_false]
  refine ⟨aD, 31, rfl, h4.1, by omega, by omega, fun v S1 v0 v1 h1 f1 => ?_⟩
  simp [sSeq, sIf, sAsg, sRet, sExpr, sNext, sPar, sRaise, sRetN, sDead, ofP, ofB, ofL, pVar, pC, pOp, pUn, pB, pT, pTup, pLst, aNil, aCons, bAnd_eq, bOr_eq, bNot, pIf_eq, pCall, pFn, oLen,  dAt, dFld, dDic, oIsN, oNotN, isN, asB_bl, dI, dI2, gNm, gFld, gTup2, gKey, gIx, tTupE, tLstE, tLstM, tACons, tCallF, tMethF, tMakeF, tBin, tListM, tApp, tDic, tAll, tIfE, tAndB, tOrB, tTst, tB1, tNotB, setF, startD, oList, vAnd_eq, vOr_eq, vNot, dTru, tRng1, oAll, tUnE, tDead, bDead, sFldU, sNmU, pSl, oSome, oNone, oMin, oMax, asI, pCh_eq, cutD_mid, cutD_to, cutD_from, band15, band255, oInt_int,
 dLst_lst, dTup_tup, dLen_lst, dLen_tup, dSeq_lst, dSeq_tup, dSeq_scr, dIx_lst, dIx_tup, at0, at1, at2, at3, at4, at5, at6, at7, dEq_int, dEq_str, dEq_bl, dEq_nn, dEq_ni, dEq_in, dEq_ns, dEq_sn, dEq_is, dEq_si, dNe_int, dNe_str, dNe_ni, dNe_in, dAdd_int,
 isi_bool_non, isi_bool_bl, isi_bool_int, isi_bool_str, isi_bool_lst, isi_bool_tup, isi_bool_dic, isi_int_non, isi_int_bl, isi_int_int, isi_int_str, isi_int_lst, isi_int_tup, isi_int_dic, isi_str_non, isi_str_bl, isi_str_int, isi_str_str, isi_str_lst, isi_str_tup, isi_str_dic, isi_list_non, isi_list_bl, isi_list_int, isi_list_str, isi_list_lst, isi_list_tup, isi_list_dic, isi_tuple_non, isi_tuple_bl, isi_tuple_int, isi_tuple_str, isi_tuple_lst, isi_tuple_tup, isi_tuple_dic, isi_dict_non, isi_dict_bl, isi_dict_int, isi_dict_str, isi_dict_lst, isi_dict_tup, isi_dict_dic,
 List.map_cons, List.map_nil, List.replicate, List.cons_append, List.nil_append, List.append_nil, List.getElem?_cons_zero, List.getElem?_cons_succ, List.getElem?_nil, List.set_cons_zero, List.set_cons_succ, List.set_nil, List.length_cons, List.length_nil, Option.bind_some, Option.bind_none, Option.map_some, Option.map_none, Option.some.injEq, List.cons.injEq, and_true, true_and, and_assoc, exists_eq_left, exists_eq_left', exists_eq_right, exists_eq_right', exists_and_left, exists_const, if_true, if_false, Bool.false_eq_true, reduceCtorEq, put_same, put_put, Dt.int.injEq, Dt.bl.injEq, Dt.adr.injEq, Dt.tup.injEq, Dt.lst.injEq, Dt.str.injEq, decide_eq_true_eq, Bool.not_true, Bool.not_false]
  refine ⟨by omega, by omega, ?_⟩
  refine forI (Inv1 A ns) ⟨aD, aS, c, aO, m, x2, x3, x4, x5, x6, x9, x10, x11, x12, x13, x14, x15, rfl, h4.dr h1 f1, gm⟩ ?_ ?_
  case refine_2 =>
    rintro ds S ⟨aD, aS, c, aO, m, x2, x3, x4, x5, x6, x9, x10, x11, x12, x13, x14, x15, rfl, h4, gm⟩
    exact hQ _ _ ⟨aD, _, _, _, _, _, _, _, _, _, _, _, _, _, _, rfl, h4.1⟩
  rintro x hx ds S ⟨aD, aS, c, aO, m, x2, x3, x4, x5, x6, x9, x10, x11, x12, x13, x14, x15, rfl, h4, gm⟩ Q2 hQ2
  simp only [gNm, List.set_cons_succ, List.set_cons_zero]
  have hI1 : Inv1 A ns (ev ns aD [x2, x3, some x, x5, x6, some (.adr aS), some (.adr aO), x9, x10, x11, x12, x13, x14, x15]) S := ⟨aD, aS, c, aO, m, x2, x3, some x, x5, x6, x9, x10, x11, x12, x13, x14, x15, rfl, h4, gm⟩
  refine turn_ok (x := x) A ns hI1 hQ2 ?_ ?_ ?_ ?_
  · intro aD aS c aO m x2 x3 x4 x5 x6 x9 x10 x11 x12 x13 x14 x15 S h4 gm Q hQ
    have hS := h4.2.2.1.1
    simp [sSeq, sIf, sAsg, sRet, sExpr, sNext, sPar, sRaise, sRetN, sDead, ofP, ofB, ofL, pVar, pC, pOp, pUn, pB, pT, pTup, pLst, aNil, aCons, bAnd_eq, bOr_eq, bNot, pIf_eq, pCall, pFn, oLen,  dAt, dFld, dDic, oIsN, oNotN, isN, asB_bl, dI, dI2, gNm, gFld, gTup2, gKey, gIx, tTupE, tLstE, tLstM, tACons, tCallF, tMethF, tMakeF, tBin, tListM, tApp, tDic, tAll, tIfE, tAndB, tOrB, tTst, tB1, tNotB, setF, startD, oList, vAnd_eq, vOr_eq, vNot, dTru, tRng1, oAll, tUnE, tDead, bDead, sFldU, sNmU, pSl, oSome, oNone, oMin, oMax, asI, pCh_eq, cutD_mid, cutD_to, cutD_from, band15, band255, oInt_int,
 dLst_lst, dTup_tup, dLen_lst, dLen_tup, dSeq_lst, dSeq_tup, dSeq_scr, dIx_lst, dIx_tup, at0, at1, at2, at3, at4, at5, at6, at7, dEq_int, dEq_str, dEq_bl, dEq_nn, dEq_ni, dEq_in, dEq_ns, dEq_sn, dEq_is, dEq_si, dNe_int, dNe_str, dNe_ni, dNe_in, dAdd_int,
 isi_bool_non, isi_bool_bl, isi_bool_int, isi_bool_str, isi_bool_lst, isi_bool_tup, isi_bool_dic, isi_int_non, isi_int_bl, isi_int_int, isi_int_str, isi_int_lst, isi_int_tup, isi_int_dic, isi_str_non, isi_str_bl, isi_str_int, isi_str_str, isi_str_lst, isi_str_tup, isi_str_dic, isi_list_non, isi_list_bl, isi_list_int, isi_list_str, isi_list_lst, isi_list_tup, isi_list_dic, isi_tuple_non, isi_tuple_bl, isi_tuple_int, isi_tuple_str, isi_tuple_lst, isi_tuple_tup, isi_tuple_dic, isi_dict_non, isi_dict_bl, isi_dict_int, isi_dict_str, isi_dict_lst, isi_dict_tup, isi_dict_dic,
 List.map_cons, List.map_nil, List.replicate, List.cons_append, List.nil_append, List.append_nil, List.getElem?_cons_zero, List.getElem?_cons_succ, List.getElem?_nil, List.set_cons_zero, List.set_cons_succ, List.set_nil, List.length_cons, List.length_nil, Option.bind_some, Option.bind_none, Option.map_some, Option.map_none, Option.some.injEq, List.cons.injEq, and_true, true_and, and_assoc, exists_eq_left, exists_eq_left', exists_eq_right, exists_eq_right', exists_and_left, exists_const, if_true, if_false, Bool.false_eq_true, reduceCtorEq, put_same, put_put, Dt.int.injEq, Dt.bl.injEq, Dt.adr.injEq, Dt.tup.injEq, Dt.lst.injEq, Dt.str.injEq, decide_eq_true_eq, Bool.not_true, Bool.not_false, hS]
    refine ⟨aD, 9, rfl, h4.1, by omega, by omega, fun v S1 v0 v1 h1 f1 => ?_⟩
    have o : ∃ d : Int, 0 ≤ d ∧ atI [Dt.int 0, Dt.int 0, Dt.int 1, Dt.int 20, Dt.int 127, Dt.int 500, Dt.int 999, Dt.int 1000, Dt.int 1001] v = some (Dt.int d) := by
      have : v = 0 ∨ v = 1 ∨ v = 2 ∨ v = 3 ∨ v = 4 ∨ v = 5 ∨ v = 6 ∨ v = 7 ∨ v = 8 := by omega
      rcases this with rfl | rfl | rfl | rfl | rfl | rfl | rfl | rfl | rfl
      all_goals exact ⟨_, by decide, rfl⟩
    obtain ⟨d, d0, ed⟩ := o
    simp [sSeq, sIf, sAsg, sRet, sExpr, sNext, sPar, sRaise, sRetN, sDead, ofP, ofB, ofL, pVar, pC, pOp, pUn, pB, pT, pTup, pLst, aNil, aCons, bAnd_eq, bOr_eq, bNot, pIf_eq, pCall, pFn, oLen,  dAt, dFld, dDic, oIsN, oNotN, isN, asB_bl, dI, dI2, gNm, gFld, gTup2, gKey, gIx, tTupE, tLstE, tLstM, tACons, tCallF, tMethF, tMakeF, tBin, tListM, tApp, tDic, tAll, tIfE, tAndB, tOrB, tTst, tB1, tNotB, setF, startD, oList, vAnd_eq, vOr_eq, vNot, dTru, tRng1, oAll, tUnE, tDead, bDead, sFldU, sNmU, pSl, oSome, oNone, oMin, oMax, asI, pCh_eq, cutD_mid, cutD_to, cutD_from, band15, band255, oInt_int,
 dLst_lst, dTup_tup, dLen_lst, dLen_tup, dSeq_lst, dSeq_tup, dSeq_scr, dIx_lst, dIx_tup, at0, at1, at2, at3, at4, at5, at6, at7, dEq_int, dEq_str, dEq_bl, dEq_nn, dEq_ni, dEq_in, dEq_ns, dEq_sn, dEq_is, dEq_si, dNe_int, dNe_str, dNe_ni, dNe_in, dAdd_int,
 isi_bool_non, isi_bool_bl, isi_bool_int, isi_bool_str, isi_bool_lst, isi_bool_tup, isi_bool_dic, isi_int_non, isi_int_bl, isi_int_int, isi_int_str, isi_int_lst, isi_int_tup, isi_int_dic, isi_str_non, isi_str_bl, isi_str_int, isi_str_str, isi_str_lst, isi_str_tup, isi_str_dic, isi_list_non, isi_list_bl, isi_list_int, isi_list_str, isi_list_lst, isi_list_tup, isi_list_dic, isi_tuple_non, isi_tuple_bl, isi_tuple_int, isi_tuple_str, isi_tuple_lst, isi_tuple_tup, isi_tuple_dic, isi_dict_non, isi_dict_bl, isi_dict_int, isi_dict_str, isi_dict_lst, isi_dict_tup, isi_dict_dic,
 List.map_cons, List.map_nil, List.replicate, List.cons_append, List.nil_append, List.append_nil, List.getElem?_cons_zero, List.getElem?_cons_succ, List.getElem?_nil, List.set_cons_zero, List.set_cons_succ, List.set_nil, List.length_cons, List.length_nil, Option.bind_some, Option.bind_none, Option.map_some, Option.map_none, Option.some.injEq, List.cons.injEq, and_true, true_and, and_assoc, exists_eq_left, exists_eq_left', exists_eq_right, exists_eq_right', exists_and_left, exists_const, if_true, if_false, Bool.false_eq_true, reduceCtorEq, put_same, put_put, Dt.int.injEq, Dt.bl.injEq, Dt.adr.injEq, Dt.tup.injEq, Dt.lst.injEq, Dt.str.injEq, decide_eq_true_eq, Bool.not_true, Bool.not_false, ed]
    exact hQ _ _ (by omega) (h4.dr h1 f1)
  · intro aD aS c aO m x2 x3 x4 x5 x6 now x10 x11 x12 x13 x14 x15 S h4 Q hQ
    simp [sSeq, sIf, sAsg, sRet, sExpr, sNext, sPar, sRaise, sRetN, sDead, ofP, ofB, ofL, pVar, pC, pOp, pUn, pB, pT, pTup, pLst, aNil, aCons, bAnd_eq, bOr_eq, bNot, pIf_eq, pCall, pFn, oLen,  dAt, dFld, dDic, oIsN, oNotN, isN, asB_bl, dI, dI2, gNm, gFld, gTup2, gKey, gIx, tTupE, tLstE, tLstM, tACons, tCallF, tMethF, tMakeF, tBin, tListM, tApp, tDic, tAll, tIfE, tAndB, tOrB, tTst, tB1, tNotB, setF, startD, oList, vAnd_eq, vOr_eq, vNot, dTru, tRng1, oAll, tUnE, tDead, bDead, sFldU, sNmU, pSl, oSome, oNone, oMin, oMax, asI, pCh_eq, cutD_mid, cutD_to, cutD_from, band15, band255, oInt_int,
 dLst_lst, dTup_tup, dLen_lst, dLen_tup, dSeq_lst, dSeq_tup, dSeq_scr, dIx_lst, dIx_tup, at0, at1, at2, at3, at4, at5, at6, at7, dEq_int, dEq_str, dEq_bl, dEq_nn, dEq_ni, dEq_in, dEq_ns, dEq_sn, dEq_is, dEq_si, dNe_int, dNe_str, dNe_ni, dNe_in, dAdd_int,
 isi_bool_non, isi_bool_bl, isi_bool_int, isi_bool_str, isi_bool_lst, isi_bool_tup, isi_bool_dic, isi_int_non, isi_int_bl, isi_int_int, isi_int_str, isi_int_lst, isi_int_tup, isi_int_dic, isi_str_non, isi_str_bl, isi_str_int, isi_str_str, isi_str_lst, isi_str_tup, isi_str_dic, isi_list_non, isi_list_bl, isi_list_int, isi_list_str, isi_list_lst, isi_list_tup, isi_list_dic, isi_tuple_non, isi_tuple_bl, isi_tuple_int, isi_tuple_str, isi_tuple_lst, isi_tuple_tup, isi_tuple_dic, isi_dict_non, isi_dict_bl, isi_dict_int, isi_dict_str, isi_dict_lst, isi_dict_tup, isi_dict_dic,
 List.map_cons, List.map_nil, List.replicate, List.cons_append, List.nil_append, List.append_nil, List.getElem?_cons_zero, List.getElem?_cons_succ, List.getElem?_nil, List.set_cons_zero, List.set_cons_succ, List.set_nil, List.length_cons, List.length_nil, Option.bind_some, Option.bind_none, Option.map_some, Option.map_none, Option.some.injEq, List.cons.injEq, and_true, true_and, and_assoc, exists_eq_left, exists_eq_left', exists_eq_right, exists_eq_right', exists_and_left, exists_const, if_true, if_false, Bool.false_eq_true, reduceCtorEq, put_same, put_put, Dt.int.injEq, Dt.bl.injEq, Dt.adr.injEq, Dt.tup.injEq, Dt.lst.injEq, Dt.str.injEq, decide_eq_true_eq, Bool.not_true, Bool.not_false]
    exact ⟨aD, 8, rfl, h4.1, by omega, by omega, fun v S1 v0 v1 h1 f1 => hQ _ _ (h4.dr h1 f1)⟩
  · intro aD aS c aO m x2 x3 x4 x5 x6 now kind x11 x12 x13 x14 x15 S hn h4 gm Q hQ
    have cn : ¬ now < m.now := by omega
    by_cases c1 : kind < 5
    · refine ifT (by simp [sSeq, sIf, sAsg, sRet, sExpr, sNext, sPar, sRaise, sRetN, sDead, ofP, ofB, ofL, pVar, pC, pOp, pUn, pB, pT, pTup, pLst, aNil, aCons, bAnd_eq, bOr_eq, bNot, pIf_eq, pCall, pFn, oLen,  dAt, dFld, dDic, oIsN, oNotN, isN, asB_bl, dI, dI2, gNm, gFld, gTup2, gKey, gIx, tTupE, tLstE, tLstM, tACons, tCallF, tMethF, tMakeF, tBin, tListM, tApp, tDic, tAll, tIfE, tAndB, tOrB, tTst, tB1, tNotB, setF, startD, oList, vAnd_eq, vOr_eq, vNot, dTru, tRng1, oAll, tUnE, tDead, bDead, sFldU, sNmU, pSl, oSome, oNone, oMin, oMax, asI, pCh_eq, cutD_mid, cutD_to, cutD_from, band15, band255, oInt_int,
 dLst_lst, dTup_tup, dLen_lst, dLen_tup, dSeq_lst, dSeq_tup, dSeq_scr, dIx_lst, dIx_tup, at0, at1, at2, at3, at4, at5, at6, at7, dEq_int, dEq_str, dEq_bl, dEq_nn, dEq_ni, dEq_in, dEq_ns, dEq_sn, dEq_is, dEq_si, dNe_int, dNe_str, dNe_ni, dNe_in, dAdd_int,
 isi_bool_non, isi_bool_bl, isi_bool_int, isi_bool_str, isi_bool_lst, isi_bool_tup, isi_bool_dic, isi_int_non, isi_int_bl, isi_int_int, isi_int_str, isi_int_lst, isi_int_tup, isi_int_dic, isi_str_non, isi_str_bl, isi_str_int, isi_str_str, isi_str_lst, isi_str_tup, isi_str_dic, isi_list_non, isi_list_bl, isi_list_int, isi_list_str, isi_list_lst, isi_list_tup, isi_list_dic, isi_tuple_non, isi_tuple_bl, isi_tuple_int, isi_tuple_str, isi_tuple_lst, isi_tuple_tup, isi_tuple_dic, isi_dict_non, isi_dict_bl, isi_dict_int, isi_dict_str, isi_dict_lst, isi_dict_tup, isi_dict_dic,
 List.map_cons, List.map_nil, List.replicate, List.cons_append, List.nil_append, List.append_nil, List.getElem?_cons_zero, List.getElem?_cons_succ, List.getElem?_nil, List.set_cons_zero, List.set_cons_succ, List.set_nil, List.length_cons, List.length_nil, Option.bind_some, Option.bind_none, Option.map_some, Option.map_none, Option.some.injEq, List.cons.injEq, and_true, true_and, and_assoc, exists_eq_left, exists_eq_left', exists_eq_right, exists_eq_right', exists_and_left, exists_const, if_true, if_false, Bool.false_eq_true, reduceCtorEq, put_same, put_put, Dt.int.injEq, Dt.bl.injEq, Dt.adr.injEq, Dt.tup.injEq, Dt.lst.injEq, Dt.str.injEq, decide_eq_true_eq, Bool.not_true, Bool.not_false, c1]) ?_
      refine seqI (fun ds' S' => ∃ oct, octs oct = true ∧ oct.length ≤ 8 ∧ (∃ d, toldM oct = some d) ∧ ds' = ev ns aD [x2, x3, x4, x5, x6, some (.adr aS), some (.adr aO), some (.int now), some (.int kind), some (il oct), x12, x13, x14, x15] ∧ I4 A S' aD aS c aO m m) ?_ ?_
      case refine_2 =>
        intro Q hQ
        simp [sSeq, sIf, sAsg, sRet, sExpr, sNext, sPar, sRaise, sRetN, sDead, ofP, ofB, ofL, pVar, pC, pOp, pUn, pB, pT, pTup, pLst, aNil, aCons, bAnd_eq, bOr_eq, bNot, pIf_eq, pCall, pFn, oLen,  dAt, dFld, dDic, oIsN, oNotN, isN, asB_bl, dI, dI2, gNm, gFld, gTup2, gKey, gIx, tTupE, tLstE, tLstM, tACons, tCallF, tMethF, tMakeF, tBin, tListM, tApp, tDic, tAll, tIfE, tAndB, tOrB, tTst, tB1, tNotB, setF, startD, oList, vAnd_eq, vOr_eq, vNot, dTru, tRng1, oAll, tUnE, tDead, bDead, sFldU, sNmU, pSl, oSome, oNone, oMin, oMax, asI, pCh_eq, cutD_mid, cutD_to, cutD_from, band15, band255, oInt_int,
 dLst_lst, dTup_tup, dLen_lst, dLen_tup, dSeq_lst, dSeq_tup, dSeq_scr, dIx_lst, dIx_tup, at0, at1, at2, at3, at4, at5, at6, at7, dEq_int, dEq_str, dEq_bl, dEq_nn, dEq_ni, dEq_in, dEq_ns, dEq_sn, dEq_is, dEq_si, dNe_int, dNe_str, dNe_ni, dNe_in, dAdd_int,
 isi_bool_non, isi_bool_bl, isi_bool_int, isi_bool_str, isi_bool_lst, isi_bool_tup, isi_bool_dic, isi_int_non, isi_int_bl, isi_int_int, isi_int_str, isi_int_lst, isi_int_tup, isi_int_dic, isi_str_non, isi_str_bl, isi_str_int, isi_str_str, isi_str_lst, isi_str_tup, isi_str_dic, isi_list_non, isi_list_bl, isi_list_int, isi_list_str, isi_list_lst, isi_list_tup, isi_list_dic, isi_tuple_non, isi_tuple_bl, isi_tuple_int, isi_tuple_str, isi_tuple_lst, isi_tuple_tup, isi_tuple_dic, isi_dict_non, isi_dict_bl, isi_dict_int, isi_dict_str, isi_dict_lst, isi_dict_tup, isi_dict_dic,
 List.map_cons, List.map_nil, List.replicate, List.cons_append, List.nil_append, List.append_nil, List.getElem?_cons_zero, List.getElem?_cons_succ, List.getElem?_nil, List.set_cons_zero, List.set_cons_succ, List.set_nil, List.length_cons, List.length_nil, Option.bind_some, Option.bind_none, Option.map_some, Option.map_none, Option.some.injEq, List.cons.injEq, and_true, true_and, and_assoc, exists_eq_left, exists_eq_left', exists_eq_right, exists_eq_right', exists_and_left, exists_const, if_true, if_false, Bool.false_eq_true, reduceCtorEq, put_same, put_put, Dt.int.injEq, Dt.bl.injEq, Dt.adr.injEq, Dt.tup.injEq, Dt.lst.injEq, Dt.str.injEq, decide_eq_true_eq, Bool.not_true, Bool.not_false]
        exact ⟨aD, rfl, h4.1, fun oct S1 o1 o2 o3 h1 f1 => hQ _ _ ⟨oct, o1, o2, o3, rfl, h4.dr h1 f1⟩⟩
      clear h4
      rintro _ S ⟨oct, o1, o2, o3, rfl, h4⟩
      obtain ⟨r, hr, g1, g2, g3, g4⟩ := getM_good (t := now) (oct := oct) gm
      have e : calledM m "get" oct now = some (r.1, .tup [.str "told", rowsD r.2]) := by
        simp only [calledM, cn, if_false, if_true, hr]
        rfl
      simp [sSeq, sIf, sAsg, sRet, sExpr, sNext, sPar, sRaise, sRetN, sDead, ofP, ofB, ofL, pVar, pC, pOp, pUn, pB, pT, pTup, pLst, aNil, aCons, bAnd_eq, bOr_eq, bNot, pIf_eq, pCall, pFn, oLen,  dAt, dFld, dDic, oIsN, oNotN, isN, asB_bl, dI, dI2, gNm, gFld, gTup2, gKey, gIx, tTupE, tLstE, tLstM, tACons, tCallF, tMethF, tMakeF, tBin, tListM, tApp, tDic, tAll, tIfE, tAndB, tOrB, tTst, tB1, tNotB, setF, startD, oList, vAnd_eq, vOr_eq, vNot, dTru, tRng1, oAll, tUnE, tDead, bDead, sFldU, sNmU, pSl, oSome, oNone, oMin, oMax, asI, pCh_eq, cutD_mid, cutD_to, cutD_from, band15, band255, oInt_int,
 dLst_lst, dTup_tup, dLen_lst, dLen_tup, dSeq_lst, dSeq_tup, dSeq_scr, dIx_lst, dIx_tup, at0, at1, at2, at3, at4, at5, at6, at7, dEq_int, dEq_str, dEq_bl, dEq_nn, dEq_ni, dEq_in, dEq_ns, dEq_sn, dEq_is, dEq_si, dNe_int, dNe_str, dNe_ni, dNe_in, dAdd_int,
 isi_bool_non, isi_bool_bl, isi_bool_int, isi_bool_str, isi_bool_lst, isi_bool_tup, isi_bool_dic, isi_int_non, isi_int_bl, isi_int_int, isi_int_str, isi_int_lst, isi_int_tup, isi_int_dic, isi_str_non, isi_str_bl, isi_str_int, isi_str_str, isi_str_lst, isi_str_tup, isi_str_dic, isi_list_non, isi_list_bl, isi_list_int, isi_list_str, isi_list_lst, isi_list_tup, isi_list_dic, isi_tuple_non, isi_tuple_bl, isi_tuple_int, isi_tuple_str, isi_tuple_lst, isi_tuple_tup, isi_tuple_dic, isi_dict_non, isi_dict_bl, isi_dict_int, isi_dict_str, isi_dict_lst, isi_dict_tup, isi_dict_dic,
 List.map_cons, List.map_nil, List.replicate, List.cons_append, List.nil_append, List.append_nil, List.getElem?_cons_zero, List.getElem?_cons_succ, List.getElem?_nil, List.set_cons_zero, List.set_cons_succ, List.set_nil, List.length_cons, List.length_nil, Option.bind_some, Option.bind_none, Option.map_some, Option.map_none, Option.some.injEq, List.cons.injEq, and_true, true_and, and_assoc, exists_eq_left, exists_eq_left', exists_eq_right, exists_eq_right', exists_and_left, exists_const, if_true, if_false, Bool.false_eq_true, reduceCtorEq, put_same, put_put, Dt.int.injEq, Dt.bl.injEq, Dt.adr.injEq, Dt.tup.injEq, Dt.lst.injEq, Dt.str.injEq, decide_eq_true_eq, Bool.not_true, Bool.not_false]
      refine ⟨aS, c, m, "get", _, oct, now, rfl, by simp, h4.2.1, gm.lv, fun _ => ⟨rfl, o1, o2, o3⟩, _, e, fun S1 h1 f1 => ?_⟩
      have i1 := h4.se h1 f1
      refine ⟨aO, m, oct, now, rfl, i1.2.2.1, gm.lv, o2, r, hr, fun S2 h2 f2 => ?_⟩
      exact hQ _ _ ⟨aD, aS, c, aO, r.1, _, _, _, _, _, _, _, _, _, _, _, _, rfl, i1.ow h2 f2, g1, sm_told (sm_rows g2 (by omega))⟩
    · by_cases c2 : kind < 7
      · refine ifF (by simp [sSeq, sIf, sAsg, sRet, sExpr, sNext, sPar, sRaise, sRetN, sDead, ofP, ofB, ofL, pVar, pC, pOp, pUn, pB, pT, pTup, pLst, aNil, aCons, bAnd_eq, bOr_eq, bNot, pIf_eq, pCall, pFn, oLen,  dAt, dFld, dDic, oIsN, oNotN, isN, asB_bl, dI, dI2, gNm, gFld, gTup2, gKey, gIx, tTupE, tLstE, tLstM, tACons, tCallF, tMethF, tMakeF, tBin, tListM, tApp, tDic, tAll, tIfE, tAndB, tOrB, tTst, tB1, tNotB, setF, startD, oList, vAnd_eq, vOr_eq, vNot, dTru, tRng1, oAll, tUnE, tDead, bDead, sFldU, sNmU, pSl, oSome, oNone, oMin, oMax, asI, pCh_eq, cutD_mid, cutD_to, cutD_from, band15, band255, oInt_int,
 dLst_lst, dTup_tup, dLen_lst, dLen_tup, dSeq_lst, dSeq_tup, dSeq_scr, dIx_lst, dIx_tup, at0, at1, at2, at3, at4, at5, at6, at7, dEq_int, dEq_str, dEq_bl, dEq_nn, dEq_ni, dEq_in, dEq_ns, dEq_sn, dEq_is, dEq_si, dNe_int, dNe_str, dNe_ni, dNe_in, dAdd_int,
 isi_bool_non, isi_bool_bl, isi_bool_int, isi_bool_str, isi_bool_lst, isi_bool_tup, isi_bool_dic, isi_int_non, isi_int_bl, isi_int_int, isi_int_str, isi_int_lst, isi_int_tup, isi_int_dic, isi_str_non, isi_str_bl, isi_str_int, isi_str_str, isi_str_lst, isi_str_tup, isi_str_dic, isi_list_non, isi_list_bl, isi_list_int, isi_list_str, isi_list_lst, isi_list_tup, isi_list_dic, isi_tuple_non, isi_tuple_bl, isi_tuple_int, isi_tuple_str, isi_tuple_lst, isi_tuple_tup, isi_tuple_dic, isi_dict_non, isi_dict_bl, isi_dict_int, isi_dict_str, isi_dict_lst, isi_dict_tup, isi_dict_dic,
 List.map_cons, List.map_nil, List.replicate, List.cons_append, List.nil_append, List.append_nil, List.getElem?_cons_zero, List.getElem?_cons_succ, List.getElem?_nil, List.set_cons_zero, List.set_cons_succ, List.set_nil, List.length_cons, List.length_nil, Option.bind_some, Option.bind_none, Option.map_some, Option.map_none, Option.some.injEq, List.cons.injEq, and_true, true_and, and_assoc, exists_eq_left, exists_eq_left', exists_eq_right, exists_eq_right', exists_and_left, exists_const, if_true, if_false, Bool.false_eq_true, reduceCtorEq, put_same, put_put, Dt.int.injEq, Dt.bl.injEq, Dt.adr.injEq, Dt.tup.injEq, Dt.lst.injEq, Dt.str.injEq, decide_eq_true_eq, Bool.not_true, Bool.not_false, c1]) (ifT (by simp [sSeq, sIf, sAsg, sRet, sExpr, sNext, sPar, sRaise, sRetN, sDead, ofP, ofB, ofL, pVar, pC, pOp, pUn, pB, pT, pTup, pLst, aNil, aCons, bAnd_eq, bOr_eq, bNot, pIf_eq, pCall, pFn, oLen,  dAt, dFld, dDic, oIsN, oNotN, isN, asB_bl, dI, dI2, gNm, gFld, gTup2, gKey, gIx, tTupE, tLstE, tLstM, tACons, tCallF, tMethF, tMakeF, tBin, tListM, tApp, tDic, tAll, tIfE, tAndB, tOrB, tTst, tB1, tNotB, setF, startD, oList, vAnd_eq, vOr_eq, vNot, dTru, tRng1, oAll, tUnE, tDead, bDead, sFldU, sNmU, pSl, oSome, oNone, oMin, oMax, asI, pCh_eq, cutD_mid, cutD_to, cutD_from, band15, band255, oInt_int,
 dLst_lst, dTup_tup, dLen_lst, dLen_tup, dSeq_lst, dSeq_tup, dSeq_scr, dIx_lst, dIx_tup, at0, at1, at2, at3, at4, at5, at6, at7, dEq_int, dEq_str, dEq_bl, dEq_nn, dEq_ni, dEq_in, dEq_ns, dEq_sn, dEq_is, dEq_si, dNe_int, dNe_str, dNe_ni, dNe_in, dAdd_int,
 isi_bool_non, isi_bool_bl, isi_bool_int, isi_bool_str, isi_bool_lst, isi_bool_tup, isi_bool_dic, isi_int_non, isi_int_bl, isi_int_int, isi_int_str, isi_int_lst, isi_int_tup, isi_int_dic, isi_str_non, isi_str_bl, isi_str_int, isi_str_str, isi_str_lst, isi_str_tup, isi_str_dic, isi_list_non, isi_list_bl, isi_list_int, isi_list_str, isi_list_lst, isi_list_tup, isi_list_dic, isi_tuple_non, isi_tuple_bl, isi_tuple_int, isi_tuple_str, isi_tuple_lst, isi_tuple_tup, isi_tuple_dic, isi_dict_non, isi_dict_bl, isi_dict_int, isi_dict_str, isi_dict_lst, isi_dict_tup, isi_dict_dic,
 List.map_cons, List.map_nil, List.replicate, List.cons_append, List.nil_append, List.append_nil, List.getElem?_cons_zero, List.getElem?_cons_succ, List.getElem?_nil, List.set_cons_zero, List.set_cons_succ, List.set_nil, List.length_cons, List.length_nil, Option.bind_some, Option.bind_none, Option.map_some, Option.map_none, Option.some.injEq, List.cons.injEq, and_true, true_and, and_assoc, exists_eq_left, exists_eq_left', exists_eq_right, exists_eq_right', exists_and_left, exists_const, if_true, if_false, Bool.false_eq_true, reduceCtorEq, put_same, put_put, Dt.int.injEq, Dt.bl.injEq, Dt.adr.injEq, Dt.tup.injEq, Dt.lst.injEq, Dt.str.injEq, decide_eq_true_eq, Bool.not_true, Bool.not_false, c2]) ?_)
        obtain ⟨r, hr⟩ := goM_some (t := now) gm.wf
        obtain ⟨g1, g2, g3, g4⟩ := goM_good hr gm
        have n1 : ¬ (("go" : Str) = "get") := by decide
        have n3 : ¬ (("go" : Str) = "begin") := by decide
        have e : calledM m "go" [] now = some (r.1, .tup [.str "told", rowsD r.2]) := by
          simp only [calledM, cn, if_false, n1, n3, hr]
          rfl
        simp [sSeq, sIf, sAsg, sRet, sExpr, sNext, sPar, sRaise, sRetN, sDead, ofP, ofB, ofL, pVar, pC, pOp, pUn, pB, pT, pTup, pLst, aNil, aCons, bAnd_eq, bOr_eq, bNot, pIf_eq, pCall, pFn, oLen,  dAt, dFld, dDic, oIsN, oNotN, isN, asB_bl, dI, dI2, gNm, gFld, gTup2, gKey, gIx, tTupE, tLstE, tLstM, tACons, tCallF, tMethF, tMakeF, tBin, tListM, tApp, tDic, tAll, tIfE, tAndB, tOrB, tTst, tB1, tNotB, setF, startD, oList, vAnd_eq, vOr_eq, vNot, dTru, tRng1, oAll, tUnE, tDead, bDead, sFldU, sNmU, pSl, oSome, oNone, oMin, oMax, asI, pCh_eq, cutD_mid, cutD_to, cutD_from, band15, band255, oInt_int,
 dLst_lst, dTup_tup, dLen_lst, dLen_tup, dSeq_lst, dSeq_tup, dSeq_scr, dIx_lst, dIx_tup, at0, at1, at2, at3, at4, at5, at6, at7, dEq_int, dEq_str, dEq_bl, dEq_nn, dEq_ni, dEq_in, dEq_ns, dEq_sn, dEq_is, dEq_si, dNe_int, dNe_str, dNe_ni, dNe_in, dAdd_int,
 isi_bool_non, isi_bool_bl, isi_bool_int, isi_bool_str, isi_bool_lst, isi_bool_tup, isi_bool_dic, isi_int_non, isi_int_bl, isi_int_int, isi_int_str, isi_int_lst, isi_int_tup, isi_int_dic, isi_str_non, isi_str_bl, isi_str_int, isi_str_str, isi_str_lst, isi_str_tup, isi_str_dic, isi_list_non, isi_list_bl, isi_list_int, isi_list_str, isi_list_lst, isi_list_tup, isi_list_dic, isi_tuple_non, isi_tuple_bl, isi_tuple_int, isi_tuple_str, isi_tuple_lst, isi_tuple_tup, isi_tuple_dic, isi_dict_non, isi_dict_bl, isi_dict_int, isi_dict_str, isi_dict_lst, isi_dict_tup, isi_dict_dic,
 List.map_cons, List.map_nil, List.replicate, List.cons_append, List.nil_append, List.append_nil, List.getElem?_cons_zero, List.getElem?_cons_succ, List.getElem?_nil, List.set_cons_zero, List.set_cons_succ, List.set_nil, List.length_cons, List.length_nil, Option.bind_some, Option.bind_none, Option.map_some, Option.map_none, Option.some.injEq, List.cons.injEq, and_true, true_and, and_assoc, exists_eq_left, exists_eq_left', exists_eq_right, exists_eq_right', exists_and_left, exists_const, if_true, if_false, Bool.false_eq_true, reduceCtorEq, put_same, put_put, Dt.int.injEq, Dt.bl.injEq, Dt.adr.injEq, Dt.tup.injEq, Dt.lst.injEq, Dt.str.injEq, decide_eq_true_eq, Bool.not_true, Bool.not_false]
        refine ⟨aS, c, m, "go", _, [], now, rfl, by simp, h4.2.1, gm.lv, fun z => absurd z n1, _, e, fun S1 h1 f1 => ?_⟩
        have i1 := h4.se h1 f1
        refine ⟨aO, m, now, rfl, i1.2.2.1, gm.lv, r, hr, fun S2 h2 f2 => ?_⟩
        exact hQ _ _ ⟨aD, aS, c, aO, r.1, _, _, _, _, _, _, _, _, _, _, _, _, rfl, i1.ow h2 f2, g1, sm_told (sm_rows g2 (by omega))⟩
      · refine ifF (by simp [sSeq, sIf, sAsg, sRet, sExpr, sNext, sPar, sRaise, sRetN, sDead, ofP, ofB, ofL, pVar, pC, pOp, pUn, pB, pT, pTup, pLst, aNil, aCons, bAnd_eq, bOr_eq, bNot, pIf_eq, pCall, pFn, oLen,  dAt, dFld, dDic, oIsN, oNotN, isN, asB_bl, dI, dI2, gNm, gFld, gTup2, gKey, gIx, tTupE, tLstE, tLstM, tACons, tCallF, tMethF, tMakeF, tBin, tListM, tApp, tDic, tAll, tIfE, tAndB, tOrB, tTst, tB1, tNotB, setF, startD, oList, vAnd_eq, vOr_eq, vNot, dTru, tRng1, oAll, tUnE, tDead, bDead, sFldU, sNmU, pSl, oSome, oNone, oMin, oMax, asI, pCh_eq, cutD_mid, cutD_to, cutD_from, band15, band255, oInt_int,
 dLst_lst, dTup_tup, dLen_lst, dLen_tup, dSeq_lst, dSeq_tup, dSeq_scr, dIx_lst, dIx_tup, at0, at1, at2, at3, at4, at5, at6, at7, dEq_int, dEq_str, dEq_bl, dEq_nn, dEq_ni, dEq_in, dEq_ns, dEq_sn, dEq_is, dEq_si, dNe_int, dNe_str, dNe_ni, dNe_in, dAdd_int,
 isi_bool_non, isi_bool_bl, isi_bool_int, isi_bool_str, isi_bool_lst, isi_bool_tup, isi_bool_dic, isi_int_non, isi_int_bl, isi_int_int, isi_int_str, isi_int_lst, isi_int_tup, isi_int_dic, isi_str_non, isi_str_bl, isi_str_int, isi_str_str, isi_str_lst, isi_str_tup, isi_str_dic, isi_list_non, isi_list_bl, isi_list_int, isi_list_str, isi_list_lst, isi_list_tup, isi_list_dic, isi_tuple_non, isi_tuple_bl, isi_tuple_int, isi_tuple_str, isi_tuple_lst, isi_tuple_tup, isi_tuple_dic, isi_dict_non, isi_dict_bl, isi_dict_int, isi_dict_str, isi_dict_lst, isi_dict_tup, isi_dict_dic,
 List.map_cons, List.map_nil, List.replicate, List.cons_append, List.nil_append, List.append_nil, List.getElem?_cons_zero, List.getElem?_cons_succ, List.getElem?_nil, List.set_cons_zero, List.set_cons_succ, List.set_nil, List.length_cons, List.length_nil, Option.bind_some, Option.bind_none, Option.map_some, Option.map_none, Option.some.injEq, List.cons.injEq, and_true, true_and, and_assoc, exists_eq_left, exists_eq_left', exists_eq_right, exists_eq_right', exists_and_left, exists_const, if_true, if_false, Bool.false_eq_true, reduceCtorEq, put_same, put_put, Dt.int.injEq, Dt.bl.injEq, Dt.adr.injEq, Dt.tup.injEq, Dt.lst.injEq, Dt.str.injEq, decide_eq_true_eq, Bool.not_true, Bool.not_false, c1]) (ifF (by simp [sSeq, sIf, sAsg, sRet, sExpr, sNext, sPar, sRaise, sRetN, sDead, ofP, ofB, ofL, pVar, pC, pOp, pUn, pB, pT, pTup, pLst, aNil, aCons, bAnd_eq, bOr_eq, bNot, pIf_eq, pCall, pFn, oLen,  dAt, dFld, dDic, oIsN, oNotN, isN, asB_bl, dI, dI2, gNm, gFld, gTup2, gKey, gIx, tTupE, tLstE, tLstM, tACons, tCallF, tMethF, tMakeF, tBin, tListM, tApp, tDic, tAll, tIfE, tAndB, tOrB, tTst, tB1, tNotB, setF, startD, oList, vAnd_eq, vOr_eq, vNot, dTru, tRng1, oAll, tUnE, tDead, bDead, sFldU, sNmU, pSl, oSome, oNone, oMin, oMax, asI, pCh_eq, cutD_mid, cutD_to, cutD_from, band15, band255, oInt_int,
 dLst_lst, dTup_tup, dLen_lst, dLen_tup, dSeq_lst, dSeq_tup, dSeq_scr, dIx_lst, dIx_tup, at0, at1, at2, at3, at4, at5, at6, at7, dEq_int, dEq_str, dEq_bl, dEq_nn, dEq_ni, dEq_in, dEq_ns, dEq_sn, dEq_is, dEq_si, dNe_int, dNe_str, dNe_ni, dNe_in, dAdd_int,
 isi_bool_non, isi_bool_bl, isi_bool_int, isi_bool_str, isi_bool_lst, isi_bool_tup, isi_bool_dic, isi_int_non, isi_int_bl, isi_int_int, isi_int_str, isi_int_lst, isi_int_tup, isi_int_dic, isi_str_non, isi_str_bl, isi_str_int, isi_str_str, isi_str_lst, isi_str_tup, isi_str_dic, isi_list_non, isi_list_bl, isi_list_int, isi_list_str, isi_list_lst, isi_list_tup, isi_list_dic, isi_tuple_non, isi_tuple_bl, isi_tuple_int, isi_tuple_str, isi_tuple_lst, isi_tuple_tup, isi_tuple_dic, isi_dict_non, isi_dict_bl, isi_dict_int, isi_dict_str, isi_dict_lst, isi_dict_tup, isi_dict_dic,
 List.map_cons, List.map_nil, List.replicate, List.cons_append, List.nil_append, List.append_nil, List.getElem?_cons_zero, List.getElem?_cons_succ, List.getElem?_nil, List.set_cons_zero, List.set_cons_succ, List.set_nil, List.length_cons, List.length_nil, Option.bind_some, Option.bind_none, Option.map_some, Option.map_none, Option.some.injEq, List.cons.injEq, and_true, true_and, and_assoc, exists_eq_left, exists_eq_left', exists_eq_right, exists_eq_right', exists_and_left, exists_const, if_true, if_false, Bool.false_eq_true, reduceCtorEq, put_same, put_put, Dt.int.injEq, Dt.bl.injEq, Dt.adr.injEq, Dt.tup.injEq, Dt.lst.injEq, Dt.str.injEq, decide_eq_true_eq, Bool.not_true, Bool.not_false, c2]) ?_)
        refine seqI (fun ds' S' => ds' = ev ns aD [x2, x3, x4, x5, x6, some (.adr aS), some (.adr aO), some (.int now), some (.int kind), x11, x12, x13, some (.int (m.now - 1)), x15] ∧ I4 A S' aD aS c aO m m) ?_ ?_
        case refine_2 =>
          intro Q hQ
          have hS := h4.2.2.1.1
          simp [sSeq, sIf, sAsg, sRet, sExpr, sNext, sPar, sRaise, sRetN, sDead, ofP, ofB, ofL, pVar, pC, pOp, pUn, pB, pT, pTup, pLst, aNil, aCons, bAnd_eq, bOr_eq, bNot, pIf_eq, pCall, pFn, oLen,  dAt, dFld, dDic, oIsN, oNotN, isN, asB_bl, dI, dI2, gNm, gFld, gTup2, gKey, gIx, tTupE, tLstE, tLstM, tACons, tCallF, tMethF, tMakeF, tBin, tListM, tApp, tDic, tAll, tIfE, tAndB, tOrB, tTst, tB1, tNotB, setF, startD, oList, vAnd_eq, vOr_eq, vNot, dTru, tRng1, oAll, tUnE, tDead, bDead, sFldU, sNmU, pSl, oSome, oNone, oMin, oMax, asI, pCh_eq, cutD_mid, cutD_to, cutD_from, band15, band255, oInt_int,
 dLst_lst, dTup_tup, dLen_lst, dLen_tup, dSeq_lst, dSeq_tup, dSeq_scr, dIx_lst, dIx_tup, at0, at1, at2, at3, at4, at5, at6, at7, dEq_int, dEq_str, dEq_bl, dEq_nn, dEq_ni, dEq_in, dEq_ns, dEq_sn, dEq_is, dEq_si, dNe_int, dNe_str, dNe_ni, dNe_in, dAdd_int,
 isi_bool_non, isi_bool_bl, isi_bool_int, isi_bool_str, isi_bool_lst, isi_bool_tup, isi_bool_dic, isi_int_non, isi_int_bl, isi_int_int, isi_int_str, isi_int_lst, isi_int_tup, isi_int_dic, isi_str_non, isi_str_bl, isi_str_int, isi_str_str, isi_str_lst, isi_str_tup, isi_str_dic, isi_list_non, isi_list_bl, isi_list_int, isi_list_str, isi_list_lst, isi_list_tup, isi_list_dic, isi_tuple_non, isi_tuple_bl, isi_tuple_int, isi_tuple_str, isi_tuple_lst, isi_tuple_tup, isi_tuple_dic, isi_dict_non, isi_dict_bl, isi_dict_int, isi_dict_str, isi_dict_lst, isi_dict_tup, isi_dict_dic,
 List.map_cons, List.map_nil, List.replicate, List.cons_append, List.nil_append, List.append_nil, List.getElem?_cons_zero, List.getElem?_cons_succ, List.getElem?_nil, List.set_cons_zero, List.set_cons_succ, List.set_nil, List.length_cons, List.length_nil, Option.bind_some, Option.bind_none, Option.map_some, Option.map_none, Option.some.injEq, List.cons.injEq, and_true, true_and, and_assoc, exists_eq_left, exists_eq_left', exists_eq_right, exists_eq_right', exists_and_left, exists_const, if_true, if_false, Bool.false_eq_true, reduceCtorEq, put_same, put_put, Dt.int.injEq, Dt.bl.injEq, Dt.adr.injEq, Dt.tup.injEq, Dt.lst.injEq, Dt.str.injEq, decide_eq_true_eq, Bool.not_true, Bool.not_false, hS]
          exact hQ _ _ ⟨rfl, h4⟩
        clear h4
        rintro _ S ⟨rfl, h4⟩
        refine seqI (fun ds' S' => ∃ w ∈ (["get", "go", "begin"] : List Str), ds' = ev ns aD [x2, x3, x4, x5, x6, some (.adr aS), some (.adr aO), some (.int now), some (.int kind), x11, x12, x13, some (.int (m.now - 1)), some (.str w)] ∧ I4 A S' aD aS c aO m m) ?_ ?_
        case refine_2 =>
          intro Q hQ
          simp [sSeq, sIf, sAsg, sRet, sExpr, sNext, sPar, sRaise, sRetN, sDead, ofP, ofB, ofL, pVar, pC, pOp, pUn, pB, pT, pTup, pLst, aNil, aCons, bAnd_eq, bOr_eq, bNot, pIf_eq, pCall, pFn, oLen,  dAt, dFld, dDic, oIsN, oNotN, isN, asB_bl, dI, dI2, gNm, gFld, gTup2, gKey, gIx, tTupE, tLstE, tLstM, tACons, tCallF, tMethF, tMakeF, tBin, tListM, tApp, tDic, tAll, tIfE, tAndB, tOrB, tTst, tB1, tNotB, setF, startD, oList, vAnd_eq, vOr_eq, vNot, dTru, tRng1, oAll, tUnE, tDead, bDead, sFldU, sNmU, pSl, oSome, oNone, oMin, oMax, asI, pCh_eq, cutD_mid, cutD_to, cutD_from, band15, band255, oInt_int,
 dLst_lst, dTup_tup, dLen_lst, dLen_tup, dSeq_lst, dSeq_tup, dSeq_scr, dIx_lst, dIx_tup, at0, at1, at2, at3, at4, at5, at6, at7, dEq_int, dEq_str, dEq_bl, dEq_nn, dEq_ni, dEq_in, dEq_ns, dEq_sn, dEq_is, dEq_si, dNe_int, dNe_str, dNe_ni, dNe_in, dAdd_int,
 isi_bool_non, isi_bool_bl, isi_bool_int, isi_bool_str, isi_bool_lst, isi_bool_tup, isi_bool_dic, isi_int_non, isi_int_bl, isi_int_int, isi_int_str, isi_int_lst, isi_int_tup, isi_int_dic, isi_str_non, isi_str_bl, isi_str_int, isi_str_str, isi_str_lst, isi_str_tup, isi_str_dic, isi_list_non, isi_list_bl, isi_list_int, isi_list_str, isi_list_lst, isi_list_tup, isi_list_dic, isi_tuple_non, isi_tuple_bl, isi_tuple_int, isi_tuple_str, isi_tuple_lst, isi_tuple_tup, isi_tuple_dic, isi_dict_non, isi_dict_bl, isi_dict_int, isi_dict_str, isi_dict_lst, isi_dict_tup, isi_dict_dic,
 List.map_cons, List.map_nil, List.replicate, List.cons_append, List.nil_append, List.append_nil, List.getElem?_cons_zero, List.getElem?_cons_succ, List.getElem?_nil, List.set_cons_zero, List.set_cons_succ, List.set_nil, List.length_cons, List.length_nil, Option.bind_some, Option.bind_none, Option.map_some, Option.map_none, Option.some.injEq, List.cons.injEq, and_true, true_and, and_assoc, exists_eq_left, exists_eq_left', exists_eq_right, exists_eq_right', exists_and_left, exists_const, if_true, if_false, Bool.false_eq_true, reduceCtorEq, put_same, put_put, Dt.int.injEq, Dt.bl.injEq, Dt.adr.injEq, Dt.tup.injEq, Dt.lst.injEq, Dt.str.injEq, decide_eq_true_eq, Bool.not_true, Bool.not_false]
          refine ⟨aD, 3, rfl, h4.1, by omega, by omega, fun v S1 v0 v1 h1 f1 => ?_⟩
          have o : ∃ w ∈ (["get", "go", "begin"] : List Str), atI [Dt.str "get", Dt.str "go", Dt.str "begin"] v = some (Dt.str w) := by
            have : v = 0 ∨ v = 1 ∨ v = 2 := by omega
            rcases this with rfl | rfl | rfl
            · exact ⟨"get", by simp, rfl⟩
            · exact ⟨"go", by simp, rfl⟩
            · exact ⟨"begin", by simp, rfl⟩
          obtain ⟨w, hw, ew⟩ := o
          simp [sSeq, sIf, sAsg, sRet, sExpr, sNext, sPar, sRaise, sRetN, sDead, ofP, ofB, ofL, pVar, pC, pOp, pUn, pB, pT, pTup, pLst, aNil, aCons, bAnd_eq, bOr_eq, bNot, pIf_eq, pCall, pFn, oLen,  dAt, dFld, dDic, oIsN, oNotN, isN, asB_bl, dI, dI2, gNm, gFld, gTup2, gKey, gIx, tTupE, tLstE, tLstM, tACons, tCallF, tMethF, tMakeF, tBin, tListM, tApp, tDic, tAll, tIfE, tAndB, tOrB, tTst, tB1, tNotB, setF, startD, oList, vAnd_eq, vOr_eq, vNot, dTru, tRng1, oAll, tUnE, tDead, bDead, sFldU, sNmU, pSl, oSome, oNone, oMin, oMax, asI, pCh_eq, cutD_mid, cutD_to, cutD_from, band15, band255, oInt_int,
 dLst_lst, dTup_tup, dLen_lst, dLen_tup, dSeq_lst, dSeq_tup, dSeq_scr, dIx_lst, dIx_tup, at0, at1, at2, at3, at4, at5, at6, at7, dEq_int, dEq_str, dEq_bl, dEq_nn, dEq_ni, dEq_in, dEq_ns, dEq_sn, dEq_is, dEq_si, dNe_int, dNe_str, dNe_ni, dNe_in, dAdd_int,
 isi_bool_non, isi_bool_bl, isi_bool_int, isi_bool_str, isi_bool_lst, isi_bool_tup, isi_bool_dic, isi_int_non, isi_int_bl, isi_int_int, isi_int_str, isi_int_lst, isi_int_tup, isi_int_dic, isi_str_non, isi_str_bl, isi_str_int, isi_str_str, isi_str_lst, isi_str_tup, isi_str_dic, isi_list_non, isi_list_bl, isi_list_int, isi_list_str, isi_list_lst, isi_list_tup, isi_list_dic, isi_tuple_non, isi_tuple_bl, isi_tuple_int, isi_tuple_str, isi_tuple_lst, isi_tuple_tup, isi_tuple_dic, isi_dict_non, isi_dict_bl, isi_dict_int, isi_dict_str, isi_dict_lst, isi_dict_tup, isi_dict_dic,
 List.map_cons, List.map_nil, List.replicate, List.cons_append, List.nil_append, List.append_nil, List.getElem?_cons_zero, List.getElem?_cons_succ, List.getElem?_nil, List.set_cons_zero, List.set_cons_succ, List.set_nil, List.length_cons, List.length_nil, Option.bind_some, Option.bind_none, Option.map_some, Option.map_none, Option.some.injEq, List.cons.injEq, and_true, true_and, and_assoc, exists_eq_left, exists_eq_left', exists_eq_right, exists_eq_right', exists_and_left, exists_const, if_true, if_false, Bool.false_eq_true, reduceCtorEq, put_same, put_put, Dt.int.injEq, Dt.bl.injEq, Dt.adr.injEq, Dt.tup.injEq, Dt.lst.injEq, Dt.str.injEq, decide_eq_true_eq, Bool.not_true, Bool.not_false, ew]
          exact hQ _ _ ⟨w, hw, rfl, h4.dr h1 f1⟩
        clear h4
        rintro _ S ⟨w, hw, rfl, h4⟩
        have hS := h4.2.2.1.1
        have oc : octs [48, 0, 0] = true := by decide
        by_cases cb : w = "begin"
        · subst cb
          have n2 : ¬ (("begin" : Str) = "get") := by decide
          have ns' : ¬ m.state = "new" := fun z => new_no (z ▸ gm.st)
          have e : calledM m "begin" [48, 0, 0] m.now = some (m, .tup [.str "wrong", .str "begin"]) := by
            simp only [calledM, Int.lt_irrefl, if_false, n2, if_true, ns']
          simp [sSeq, sIf, sAsg, sRet, sExpr, sNext, sPar, sRaise, sRetN, sDead, ofP, ofB, ofL, pVar, pC, pOp, pUn, pB, pT, pTup, pLst, aNil, aCons, bAnd_eq, bOr_eq, bNot, pIf_eq, pCall, pFn, oLen,  dAt, dFld, dDic, oIsN, oNotN, isN, asB_bl, dI, dI2, gNm, gFld, gTup2, gKey, gIx, tTupE, tLstE, tLstM, tACons, tCallF, tMethF, tMakeF, tBin, tListM, tApp, tDic, tAll, tIfE, tAndB, tOrB, tTst, tB1, tNotB, setF, startD, oList, vAnd_eq, vOr_eq, vNot, dTru, tRng1, oAll, tUnE, tDead, bDead, sFldU, sNmU, pSl, oSome, oNone, oMin, oMax, asI, pCh_eq, cutD_mid, cutD_to, cutD_from, band15, band255, oInt_int,
 dLst_lst, dTup_tup, dLen_lst, dLen_tup, dSeq_lst, dSeq_tup, dSeq_scr, dIx_lst, dIx_tup, at0, at1, at2, at3, at4, at5, at6, at7, dEq_int, dEq_str, dEq_bl, dEq_nn, dEq_ni, dEq_in, dEq_ns, dEq_sn, dEq_is, dEq_si, dNe_int, dNe_str, dNe_ni, dNe_in, dAdd_int,
 isi_bool_non, isi_bool_bl, isi_bool_int, isi_bool_str, isi_bool_lst, isi_bool_tup, isi_bool_dic, isi_int_non, isi_int_bl, isi_int_int, isi_int_str, isi_int_lst, isi_int_tup, isi_int_dic, isi_str_non, isi_str_bl, isi_str_int, isi_str_str, isi_str_lst, isi_str_tup, isi_str_dic, isi_list_non, isi_list_bl, isi_list_int, isi_list_str, isi_list_lst, isi_list_tup, isi_list_dic, isi_tuple_non, isi_tuple_bl, isi_tuple_int, isi_tuple_str, isi_tuple_lst, isi_tuple_tup, isi_tuple_dic, isi_dict_non, isi_dict_bl, isi_dict_int, isi_dict_str, isi_dict_lst, isi_dict_tup, isi_dict_dic,
 List.map_cons, List.map_nil, List.replicate, List.cons_append, List.nil_append, List.append_nil, List.getElem?_cons_zero, List.getElem?_cons_succ, List.getElem?_nil, List.set_cons_zero, List.set_cons_succ, List.set_nil, List.length_cons, List.length_nil, Option.bind_some, Option.bind_none, Option.map_some, Option.map_none, Option.some.injEq, List.cons.injEq, and_true, true_and, and_assoc, exists_eq_left, exists_eq_left', exists_eq_right, exists_eq_right', exists_and_left, exists_const, if_true, if_false, Bool.false_eq_true, reduceCtorEq, put_same, put_put, Dt.int.injEq, Dt.bl.injEq, Dt.adr.injEq, Dt.tup.injEq, Dt.lst.injEq, Dt.str.injEq, decide_eq_true_eq, Bool.not_true, Bool.not_false, hS]
          refine ⟨aS, c, m, "begin", _, [48, 0, 0], m.now, rfl, by simp, h4.2.1, gm.lv, fun z => absurd z n2, _, e, fun S1 h1 f1 => ?_⟩
          exact hQ _ _ ⟨aD, aS, c, aO, m, _, _, _, _, _, _, _, _, _, _, _, _, rfl, h4.se h1 f1, gm, by simp [sm, sms, short_wrong, short_begin]⟩
        · have e : calledM m w [48, 0, 0] (m.now - 1) = some (m, .tup [.str "wrong", .int (m.now - 1)]) := by
            simp only [calledM, if_pos (show m.now - 1 < m.now by omega)]
          simp [sSeq, sIf, sAsg, sRet, sExpr, sNext, sPar, sRaise, sRetN, sDead, ofP, ofB, ofL, pVar, pC, pOp, pUn, pB, pT, pTup, pLst, aNil, aCons, bAnd_eq, bOr_eq, bNot, pIf_eq, pCall, pFn, oLen,  dAt, dFld, dDic, oIsN, oNotN, isN, asB_bl, dI, dI2, gNm, gFld, gTup2, gKey, gIx, tTupE, tLstE, tLstM, tACons, tCallF, tMethF, tMakeF, tBin, tListM, tApp, tDic, tAll, tIfE, tAndB, tOrB, tTst, tB1, tNotB, setF, startD, oList, vAnd_eq, vOr_eq, vNot, dTru, tRng1, oAll, tUnE, tDead, bDead, sFldU, sNmU, pSl, oSome, oNone, oMin, oMax, asI, pCh_eq, cutD_mid, cutD_to, cutD_from, band15, band255, oInt_int,
 dLst_lst, dTup_tup, dLen_lst, dLen_tup, dSeq_lst, dSeq_tup, dSeq_scr, dIx_lst, dIx_tup, at0, at1, at2, at3, at4, at5, at6, at7, dEq_int, dEq_str, dEq_bl, dEq_nn, dEq_ni, dEq_in, dEq_ns, dEq_sn, dEq_is, dEq_si, dNe_int, dNe_str, dNe_ni, dNe_in, dAdd_int,
 isi_bool_non, isi_bool_bl, isi_bool_int, isi_bool_str, isi_bool_lst, isi_bool_tup, isi_bool_dic, isi_int_non, isi_int_bl, isi_int_int, isi_int_str, isi_int_lst, isi_int_tup, isi_int_dic, isi_str_non, isi_str_bl, isi_str_int, isi_str_str, isi_str_lst, isi_str_tup, isi_str_dic, isi_list_non, isi_list_bl, isi_list_int, isi_list_str, isi_list_lst, isi_list_tup, isi_list_dic, isi_tuple_non, isi_tuple_bl, isi_tuple_int, isi_tuple_str, isi_tuple_lst, isi_tuple_tup, isi_tuple_dic, isi_dict_non, isi_dict_bl, isi_dict_int, isi_dict_str, isi_dict_lst, isi_dict_tup, isi_dict_dic,
 List.map_cons, List.map_nil, List.replicate, List.cons_append, List.nil_append, List.append_nil, List.getElem?_cons_zero, List.getElem?_cons_succ, List.getElem?_nil, List.set_cons_zero, List.set_cons_succ, List.set_nil, List.length_cons, List.length_nil, Option.bind_some, Option.bind_none, Option.map_some, Option.map_none, Option.some.injEq, List.cons.injEq, and_true, true_and, and_assoc, exists_eq_left, exists_eq_left', exists_eq_right, exists_eq_right', exists_and_left, exists_const, if_true, if_false, Bool.false_eq_true, reduceCtorEq, put_same, put_put, Dt.int.injEq, Dt.bl.injEq, Dt.adr.injEq, Dt.tup.injEq, Dt.lst.injEq, Dt.str.injEq, decide_eq_true_eq, Bool.not_true, Bool.not_false, hS, cb]
          refine ⟨aS, c, m, w, _, [48, 0, 0], m.now - 1, rfl, hw, h4.2.1, gm.lv, fun _ => ⟨rfl, oc, by simp, _, rfl⟩, _, e, fun S1 h1 f1 => ?_⟩
          exact hQ _ _ ⟨aD, aS, c, aO, m, _, _, _, _, _, _, _, _, _, _, _, _, rfl, h4.se h1 f1, gm, by simp [sm, sms, short_wrong]⟩
  · rintro ds S ⟨aD, aS, c, aO, m, told, due, x2, x3, x4, x5, x6, x9, x10, x11, x14, x15, rfl, h4, gm, hs⟩ Q hQ
    obtain ⟨p, hS, _⟩ := h4.2.1.1
    have hO := h4.2.2.1.1
    simp [sSeq, sIf, sAsg, sRet, sExpr, sNext, sPar, sRaise, sRetN, sDead, ofP, ofB, ofL, pVar, pC, pOp, pUn, pB, pT, pTup, pLst, aNil, aCons, bAnd_eq, bOr_eq, bNot, pIf_eq, pCall, pFn, oLen,  dAt, dFld, dDic, oIsN, oNotN, isN, asB_bl, dI, dI2, gNm, gFld, gTup2, gKey, gIx, tTupE, tLstE, tLstM, tACons, tCallF, tMethF, tMakeF, tBin, tListM, tApp, tDic, tAll, tIfE, tAndB, tOrB, tTst, tB1, tNotB, setF, startD, oList, vAnd_eq, vOr_eq, vNot, dTru, tRng1, oAll, tUnE, tDead, bDead, sFldU, sNmU, pSl, oSome, oNone, oMin, oMax, asI, pCh_eq, cutD_mid, cutD_to, cutD_from, band15, band255, oInt_int,
 dLst_lst, dTup_tup, dLen_lst, dLen_tup, dSeq_lst, dSeq_tup, dSeq_scr, dIx_lst, dIx_tup, at0, at1, at2, at3, at4, at5, at6, at7, dEq_int, dEq_str, dEq_bl, dEq_nn, dEq_ni, dEq_in, dEq_ns, dEq_sn, dEq_is, dEq_si, dNe_int, dNe_str, dNe_ni, dNe_in, dAdd_int,
 isi_bool_non, isi_bool_bl, isi_bool_int, isi_bool_str, isi_bool_lst, isi_bool_tup, isi_bool_dic, isi_int_non, isi_int_bl, isi_int_int, isi_int_str, isi_int_lst, isi_int_tup, isi_int_dic, isi_str_non, isi_str_bl, isi_str_int, isi_str_str, isi_str_lst, isi_str_tup, isi_str_dic, isi_list_non, isi_list_bl, isi_list_int, isi_list_str, isi_list_lst, isi_list_tup, isi_list_dic, isi_tuple_non, isi_tuple_bl, isi_tuple_int, isi_tuple_str, isi_tuple_lst, isi_tuple_tup, isi_tuple_dic, isi_dict_non, isi_dict_bl, isi_dict_int, isi_dict_str, isi_dict_lst, isi_dict_tup, isi_dict_dic,
 List.map_cons, List.map_nil, List.replicate, List.cons_append, List.nil_append, List.append_nil, List.getElem?_cons_zero, List.getElem?_cons_succ, List.getElem?_nil, List.set_cons_zero, List.set_cons_succ, List.set_nil, List.length_cons, List.length_nil, Option.bind_some, Option.bind_none, Option.map_some, Option.map_none, Option.some.injEq, List.cons.injEq, and_true, true_and, and_assoc, exists_eq_left, exists_eq_left', exists_eq_right, exists_eq_right', exists_and_left, exists_const, if_true, if_false, Bool.false_eq_true, reduceCtorEq, put_same, put_put, Dt.int.injEq, Dt.bl.injEq, Dt.adr.injEq, Dt.tup.injEq, Dt.lst.injEq, Dt.str.injEq, decide_eq_true_eq, Bool.not_true, Bool.not_false, hS, sp_Sender_due]
    refine ⟨c, m, h4.2.1, ?_⟩
    simp [sSeq, sIf, sAsg, sRet, sExpr, sNext, sPar, sRaise, sRetN, sDead, ofP, ofB, ofL, pVar, pC, pOp, pUn, pB, pT, pTup, pLst, aNil, aCons, bAnd_eq, bOr_eq, bNot, pIf_eq, pCall, pFn, oLen,  dAt, dFld, dDic, oIsN, oNotN, isN, asB_bl, dI, dI2, gNm, gFld, gTup2, gKey, gIx, tTupE, tLstE, tLstM, tACons, tCallF, tMethF, tMakeF, tBin, tListM, tApp, tDic, tAll, tIfE, tAndB, tOrB, tTst, tB1, tNotB, setF, startD, oList, vAnd_eq, vOr_eq, vNot, dTru, tRng1, oAll, tUnE, tDead, bDead, sFldU, sNmU, pSl, oSome, oNone, oMin, oMax, asI, pCh_eq, cutD_mid, cutD_to, cutD_from, band15, band255, oInt_int,
 dLst_lst, dTup_tup, dLen_lst, dLen_tup, dSeq_lst, dSeq_tup, dSeq_scr, dIx_lst, dIx_tup, at0, at1, at2, at3, at4, at5, at6, at7, dEq_int, dEq_str, dEq_bl, dEq_nn, dEq_ni, dEq_in, dEq_ns, dEq_sn, dEq_is, dEq_si, dNe_int, dNe_str, dNe_ni, dNe_in, dAdd_int,
 isi_bool_non, isi_bool_bl, isi_bool_int, isi_bool_str, isi_bool_lst, isi_bool_tup, isi_bool_dic, isi_int_non, isi_int_bl, isi_int_int, isi_int_str, isi_int_lst, isi_int_tup, isi_int_dic, isi_str_non, isi_str_bl, isi_str_int, isi_str_str, isi_str_lst, isi_str_tup, isi_str_dic, isi_list_non, isi_list_bl, isi_list_int, isi_list_str, isi_list_lst, isi_list_tup, isi_list_dic, isi_tuple_non, isi_tuple_bl, isi_tuple_int, isi_tuple_str, isi_tuple_lst, isi_tuple_tup, isi_tuple_dic, isi_dict_non, isi_dict_bl, isi_dict_int, isi_dict_str, isi_dict_lst, isi_dict_tup, isi_dict_dic,
 List.map_cons, List.map_nil, List.replicate, List.cons_append, List.nil_append, List.append_nil, List.getElem?_cons_zero, List.getElem?_cons_succ, List.getElem?_nil, List.set_cons_zero, List.set_cons_succ, List.set_nil, List.length_cons, List.length_nil, Option.bind_some, Option.bind_none, Option.map_some, Option.map_none, Option.some.injEq, List.cons.injEq, and_true, true_and, and_assoc, exists_eq_left, exists_eq_left', exists_eq_right, exists_eq_right', exists_and_left, exists_const, if_true, if_false, Bool.false_eq_true, reduceCtorEq, put_same, put_put, Dt.int.injEq, Dt.bl.injEq, Dt.adr.injEq, Dt.tup.injEq, Dt.lst.injEq, Dt.str.injEq, decide_eq_true_eq, Bool.not_true, Bool.not_false, hO]
    have hz : sm S 8 (.lst [told, .str m.state, oD m.bell]) (.lst [due, .str m.state, oD m.bell]) = true := by
      have := short_st _ gm.st
      simp [sm, sms, hs, this, sm_oD]
    refine ⟨.bl true, by simp only [g__law_same, hz, if_true], ?_⟩
    simp [sSeq, sIf, sAsg, sRet, sExpr, sNext, sPar, sRaise, sRetN, sDead, ofP, ofB, ofL, pVar, pC, pOp, pUn, pB, pT, pTup, pLst, aNil, aCons, bAnd_eq, bOr_eq, bNot, pIf_eq, pCall, pFn, oLen,  dAt, dFld, dDic, oIsN, oNotN, isN, asB_bl, dI, dI2, gNm, gFld, gTup2, gKey, gIx, tTupE, tLstE, tLstM, tACons, tCallF, tMethF, tMakeF, tBin, tListM, tApp, tDic, tAll, tIfE, tAndB, tOrB, tTst, tB1, tNotB, setF, startD, oList, vAnd_eq, vOr_eq, vNot, dTru, tRng1, oAll, tUnE, tDead, bDead, sFldU, sNmU, pSl, oSome, oNone, oMin, oMax, asI, pCh_eq, cutD_mid, cutD_to, cutD_from, band15, band255, oInt_int,
 dLst_lst, dTup_tup, dLen_lst, dLen_tup, dSeq_lst, dSeq_tup, dSeq_scr, dIx_lst, dIx_tup, at0, at1, at2, at3, at4, at5, at6, at7, dEq_int, dEq_str, dEq_bl, dEq_nn, dEq_ni, dEq_in, dEq_ns, dEq_sn, dEq_is, dEq_si, dNe_int, dNe_str, dNe_ni, dNe_in, dAdd_int,
 isi_bool_non, isi_bool_bl, isi_bool_int, isi_bool_str, isi_bool_lst, isi_bool_tup, isi_bool_dic, isi_int_non, isi_int_bl, isi_int_int, isi_int_str, isi_int_lst, isi_int_tup, isi_int_dic, isi_str_non, isi_str_bl, isi_str_int, isi_str_str, isi_str_lst, isi_str_tup, isi_str_dic, isi_list_non, isi_list_bl, isi_list_int, isi_list_str, isi_list_lst, isi_list_tup, isi_list_dic, isi_tuple_non, isi_tuple_bl, isi_tuple_int, isi_tuple_str, isi_tuple_lst, isi_tuple_tup, isi_tuple_dic, isi_dict_non, isi_dict_bl, isi_dict_int, isi_dict_str, isi_dict_lst, isi_dict_tup, isi_dict_dic,
 List.map_cons, List.map_nil, List.replicate, List.cons_append, List.nil_append, List.append_nil, List.getElem?_cons_zero, List.getElem?_cons_succ, List.getElem?_nil, List.set_cons_zero, List.set_cons_succ, List.set_nil, List.length_cons, List.length_nil, Option.bind_some, Option.bind_none, Option.map_some, Option.map_none, Option.some.injEq, List.cons.injEq, and_true, true_and, and_assoc, exists_eq_left, exists_eq_left', exists_eq_right, exists_eq_right', exists_and_left, exists_const, if_true, if_false, Bool.false_eq_true, reduceCtorEq, put_same, put_put, Dt.int.injEq, Dt.bl.injEq, Dt.adr.injEq, Dt.tup.injEq, Dt.lst.injEq, Dt.str.injEq, decide_eq_true_eq, Bool.not_true, Bool.not_false]
    exact hQ _ _ ⟨aD, aS, c, aO, m, _, _, _, _, _, _, _, _, _, _, _, _, rfl, h4, gm⟩
end K47
set_option maxRecDepth 100000
set_option maxHeartbeats 4000000
namespace K47
open PySem PySem.Spec PyProof.Rows L2 Ax
section
variable {P : Program} {w : World} {K : PySem.W.Frag} {mg : Str → Option Value} {base : Heap} {A : Ad} {fd : FuncData} {B : Addr}
theorem ok_is_number (F : L2.Fun K "is_number" "is_number" st_is_number A.f_is_number fd) (b : Binds K fd ["thing", "low", "high"] []) (T : Txt K mg A) : Fn P w K mg base 1 A.f_is_number (pureSp g_is_number) :=
  fn_ok (k := 0) (m := 0) F b sc_is_number rfl (len_is_number A) fun cdv AA outer s H E hr cx => ⟨T_is_number A, (lss_one (ls_ret (le_p (lp_and (lp_isi T.z_isinstance T.z_int boot_int' (lp_var (i := 0))) (lp_and (lp_not (lp_isi T.z_isinstance T.z_bool boot_bool' (lp_var (i := 0)))) (lp_one (lp_ch cf_le cf_le (lp_var (i := 1)) (lp_var (i := 0)) (lp_var (i := 2))))))))), law_is_number A⟩
theorem ok_is_octets (F : L2.Fun K "is_octets" "is_octets" st_is_octets A.f_is_octets fd) (b : Binds K fd ["thing", "most"] []) (T : Txt K mg A) (G_is_number : Fn P w K mg base 1 A.f_is_number (pureSp g_is_number)) : Fn P w K mg base 2 A.f_is_octets (pureSp g_is_octets) :=
  fn_ok (k := 1) (m := 1) F b sc_is_octets rfl (len_is_octets A) fun cdv AA outer s H E hr cx => ⟨T_is_octets A, (lss_one (ls_ret (le_p (lp_and (lp_isi T.z_isinstance T.z_list boot_list' (lp_var (i := 0))) (lp_and (lp_cm cf_le (lp_len T.z_len (lpa_cons (lp_var (i := 0)) lpa_nil)) (lp_var (i := 1))) (lp_one (lp_all cx.calm T.z_all (lpa_cons (lp_lc (own := [("octet", 2)]) cx.calm cx.nd (li_ps (lp_var (i := 0))) tg1 (fun _ _ _ _ _ => pg_name (i := 2) cx.nd rfl (Or.inl rfl) (Or.inr rfl)) (fun _ _ _ _ _ => lpts_nil) (fun _ _ _ _ _ => (lp_call G_is_number hr (by decide) T.g_is_number (lpa_cons (lp_var (i := 2)) (lpa_cons lp_int (lpa_cons lp_int lpa_nil))))) (blkOk_by (by show blkC ["thing", "most", "octet"] (defScope st_is_octets) _ _ = true; decide +kernel))) lpa_nil)))))))), law_is_octets A⟩
theorem ok_single (F : L2.Fun K "single" "single" st_single A.f_single fd) (b : Binds K fd ["data"] []) (T : Txt K mg A) : Fn P w K mg base 1 A.f_single (pureSp g_single) :=
  fn_ok (k := 0) (m := 0) F b sc_single rfl (len_single A) fun cdv AA outer s H E hr cx => ⟨T_single A, (lss_one (ls_ret (le_p (lp_bin of_add (lp_lst (lpa_cons (lp_len T.z_len (lpa_cons (lp_var (i := 0)) lpa_nil)) lpa_nil)) (lp_var (i := 0)))))), law_single A⟩
theorem ok_first (F : L2.Fun K "first" "first" st_first A.f_first fd) (b : Binds K fd ["data"] []) (T : Txt K mg A) : Fn P w K mg base 1 A.f_first (pureSp g_first) :=
  fn_ok (k := 0) (m := 0) F b sc_first rfl (len_first A) fun cdv AA outer s H E hr cx => ⟨T_first A, (lss_one (ls_ret (le_p (lp_bin of_add (lp_lst (lpa_cons (lp_bin of_add lp_int (lp_bin of_shr (lp_len T.z_len (lpa_cons (lp_var (i := 0)) lpa_nil)) lp_int)) (lpa_cons (lp_bin of_and (lp_len T.z_len (lpa_cons (lp_var (i := 0)) lpa_nil)) lp_int) lpa_nil))) (lp_sl (lp_var (i := 0)) lpo_none (lpo_some lp_int)))))), law_first A⟩
theorem ok_next_part (F : L2.Fun K "next_part" "next_part" st_next_part A.f_next_part fd) (b : Binds K fd ["number", "data"] []) (T : Txt K mg A) : Fn P w K mg base 1 A.f_next_part (pureSp g_next_part) :=
  fn_ok (k := 0) (m := 0) F b sc_next_part rfl (len_next_part A) fun cdv AA outer s H E hr cx => ⟨T_next_part A, (lss_one (ls_ret (le_p (lp_bin of_add (lp_lst (lpa_cons (lp_bin of_add lp_int (lp_bin of_and (lp_var (i := 0)) lp_int)) lpa_nil)) (lp_var (i := 1)))))), law_next_part A⟩
theorem ok_told_by (F : L2.Fun K "told_by" "told_by" st_told_by A.f_told_by fd) (b : Binds K fd ["octets"] []) (T : Txt K mg A) (G_is_octets : Fn P w K mg base 2 A.f_is_octets (pureSp g_is_octets)) : Fn P w K mg base 3 A.f_told_by (pureSp g_told_by) :=
  fn_ok (k := 2) (m := 3) F b sc_told_by rfl (len_told_by A) fun cdv AA outer s H E hr cx => ⟨T_told_by A, (lss_cons (ls_if (lb_p (LPW.tst (lpw_or (lpb_not (lpb_tru (lp_call G_is_octets hr (by decide) T.g_is_octets (lpa_cons (lp_var (i := 0)) (lpa_cons lp_int lpa_nil))))) (lpw_or1 (lpb_cm (cf_eq hr.units) (lp_len T.z_len (lpa_cons (lp_var (i := 0)) lpa_nil)) lp_int))))) (lss_one (ls_ret (le_p lp_non))) lss_nil) (lss_cons (ls_par (i := 1) (j := 2) cx (la_p (lpa_cons (lp_bin of_shr (lp_ix (lp_var (i := 0)) lp_int) lp_int) (lpa_cons (lp_bin of_and (lp_ix (lp_var (i := 0)) lp_int) lp_int) lpa_nil)))) (lss_cons (ls_if (lb_p (lpb_cm (cf_eq hr.units) (lp_var (i := 1)) lp_int)) (lss_one (ls_ret (le_p (lp_ifExp (LPW.tst (lpw_and (lpb_ch cf_le cf_le lp_int (lp_var (i := 2)) lp_int) (lpw_and1 (lpb_cm cf_gt (lp_len T.z_len (lpa_cons (lp_var (i := 0)) lpa_nil)) (lp_var (i := 2)))))) (lp_tup (lpa_cons lp_str (lpa_cons (lp_sl (lp_var (i := 0)) (lpo_some lp_int) (lpo_some (lp_bin of_add lp_int (lp_var (i := 2))))) lpa_nil))) lp_non)))) lss_nil) (lss_cons (ls_if (lb_p (lpb_cm (cf_eq hr.units) (lp_var (i := 1)) lp_int)) (lss_cons (ls_set (i := 3) cx.nd (le_p (lp_ifExp (lpb_cm (cf_eq hr.units) (lp_len T.z_len (lpa_cons (lp_var (i := 0)) lpa_nil)) lp_int) (lp_bin of_add (lp_bin of_mul (lp_var (i := 2)) lp_int) (lp_ix (lp_var (i := 0)) lp_int)) lp_int))) (lss_one (ls_ret (le_p (lp_ifExp (lpb_cm cf_ge (lp_var (i := 3)) lp_int) (lp_tup (lpa_cons lp_str (lpa_cons (lp_var (i := 3)) (lpa_cons (lp_sl (lp_var (i := 0)) (lpo_some lp_int) lpo_none) lpa_nil)))) lp_non))))) lss_nil) (lss_cons (ls_if (lb_p (lpb_cm (cf_eq hr.units) (lp_var (i := 1)) lp_int)) (lss_one (ls_ret (le_p (lp_ifExp (lpb_cm cf_gt (lp_len T.z_len (lpa_cons (lp_var (i := 0)) lpa_nil)) lp_int) (lp_tup (lpa_cons lp_str (lpa_cons (lp_var (i := 2)) (lpa_cons (lp_sl (lp_var (i := 0)) (lpo_some lp_int) lpo_none) lpa_nil)))) lp_non)))) lss_nil) (lss_one (ls_ret (le_p (lp_ifExp (LPW.tst (lpw_and (lpb_cm (cf_eq hr.units) (lp_var (i := 1)) lp_int) (lpw_and1 (lpb_cm cf_ge (lp_len T.z_len (lpa_cons (lp_var (i := 0)) lpa_nil)) lp_int)))) (lp_tup (lpa_cons lp_str (lpa_cons (lp_var (i := 2)) (lpa_cons (lp_ix (lp_var (i := 0)) lp_int) (lpa_cons (lp_ix (lp_var (i := 0)) lp_int) lpa_nil))))) lp_non))))))))), law_told_by A⟩
theorem ok_gap_of (F : L2.Fun K "gap_of" "gap_of" st_gap_of A.f_gap_of fd) (b : Binds K fd ["octet"] []) (T : Txt K mg A) : Fn P w K mg base 1 A.f_gap_of (pureSp g_gap_of) :=
  fn_ok (k := 0) (m := 0) F b sc_gap_of rfl (len_gap_of A) fun cdv AA outer s H E hr cx => ⟨T_gap_of A, (lss_one (ls_ret (le_p (lp_min cx.calm T.z_min (lpa_cons (lp_var (i := 0)) (lpa_cons (lp_globI T.i_LONGEST_GAP) lpa_nil)))))), law_gap_of A⟩
theorem ok_Clock_init (F : L2.Fun K "__init__" "Clock.__init__" st_Clock_init A.f_Clock_init fd) (b : Binds K fd ["self"] []) (T : Txt K mg A) : Fn P w K mg base 1 A.f_Clock_init (sp_Clock_init A) :=
  fn_ok (k := 0) (m := 0) F b sc_Clock_init rfl (len_Clock_init A) fun cdv AA outer s H E hr cx => ⟨T_Clock_init A, (lss_one (ls_asg (le_p lp_int) (lg_attr (i := 0) T.k_Clock (lp_var (i := 0))))), law_Clock_init A⟩
theorem ok_Clock_pass_to (F : L2.Fun K "pass_to" "Clock.pass_to" st_Clock_pass_to A.f_Clock_pass_to fd) (b : Binds K fd ["self", "now"] []) (T : Txt K mg A) (X_DeedWrong : XMk P w K mg base 2 A.DeedWrong B "DeedWrong") : Fn P w K mg base 4 A.f_Clock_pass_to (sp_Clock_pass_to A) :=
  fn_ok (k := 3) (m := 0) F b sc_Clock_pass_to rfl (len_Clock_pass_to A) fun cdv AA outer s H E hr cx => ⟨T_Clock_pass_to A, (lss_cons (ls_if (lb_p (lpb_cm cf_lt (lp_var (i := 1)) (lp_fld (i := 0) T.k_Clock (lp_var (i := 0))))) (lss_one (ls_raise X_DeedWrong cx hr (by decide) T.g_DeedWrong (la_p (lpa_cons (lp_var (i := 1)) lpa_nil)))) lss_nil) (lss_one (ls_asg (le_p (lp_var (i := 1))) (lg_attr (i := 0) T.k_Clock (lp_var (i := 0)))))), law_Clock_pass_to A⟩
theorem ok_Sender_init (F : L2.Fun K "__init__" "Sender.__init__" st_Sender_init A.f_Sender_init fd) (b : Binds K fd ["self", "data", "waits"] []) (T : Txt K mg A) (G_Clock_init : Fn P w K mg base 1 A.f_Clock_init (sp_Clock_init A)) (X_Wrong : XMk P w K mg base 2 A.Wrong B "Wrong") : Fn P w K mg base 4 A.f_Sender_init (sp_Sender_init A) :=
  fn_ok (k := 3) (m := 0) F b sc_Sender_init rfl (len_Sender_init A) fun cdv AA outer s H E hr cx => ⟨T_Sender_init A, (lss_cons (ls_if (lb_p (lpb_not (lpb_ch cf_le cf_le lp_int (lp_len T.z_len (lpa_cons (lp_var (i := 1)) lpa_nil)) (lp_globI T.i_MOST)))) (lss_one (ls_raise X_Wrong cx hr (by decide) T.g_Wrong (la_p (lpa_cons (lp_len T.z_len (lpa_cons (lp_var (i := 1)) lpa_nil)) lpa_nil)))) lss_nil) (lss_cons (ls_asg (le_p (lp_list T.z_list (lpa_cons (lp_var (i := 1)) lpa_nil))) (lg_attr (i := 0) T.k_Sender (lp_var (i := 0)))) (lss_cons (ls_asg (le_p (lp_var (i := 2))) (lg_attr (i := 1) T.k_Sender (lp_var (i := 0)))) (lss_cons (ls_asg (le_p lp_str) (lg_attr (i := 2) T.k_Sender (lp_var (i := 0)))) (lss_cons (ls_asg (le_make0 T.m_Clock G_Clock_init cx.tk hr (by decide) T.g_Clock) (lg_attr (i := 3) T.k_Sender (lp_var (i := 0)))) (lss_cons (ls_asg (le_p lp_int) (lg_attr (i := 4) T.k_Sender (lp_var (i := 0)))) (lss_cons (ls_asg (le_p lp_int) (lg_attr (i := 5) T.k_Sender (lp_var (i := 0)))) (lss_cons (ls_asg (le_p lp_non) (lg_attr (i := 6) T.k_Sender (lp_var (i := 0)))) (lss_cons (ls_asg (le_p lp_int) (lg_attr (i := 7) T.k_Sender (lp_var (i := 0)))) (lss_one (ls_asg (le_p lp_non) (lg_attr (i := 8) T.k_Sender (lp_var (i := 0)))))))))))))), law_Sender_init A⟩
theorem ok_Sender_due (F : L2.Fun K "due" "Sender.due" st_Sender_due A.f_Sender_due fd) (b : Binds K fd ["self"] []) (T : Txt K mg A) : Fn P w K mg base 1 A.f_Sender_due (sp_Sender_due A) :=
  fn_ok (k := 0) (m := 0) F b sc_Sender_due rfl (len_Sender_due A) fun cdv AA outer s H E hr cx => ⟨T_Sender_due A, (lss_one (ls_ret (le_p (lp_fld (i := 8) T.k_Sender (lp_var (i := 0)))))), law_Sender_due A⟩
theorem ok_Sender_end (F : L2.Fun K "end" "Sender.end" st_Sender_end A.f_Sender_end fd) (b : Binds K fd ["self", "state"] []) (T : Txt K mg A) : Fn P w K mg base 1 A.f_Sender_end (sp_Sender_end A) :=
  fn_ok (k := 0) (m := 0) F b sc_Sender_end rfl (len_Sender_end A) fun cdv AA outer s H E hr cx => ⟨T_Sender_end A, (lss_cons (ls_asg (le_p (lp_var (i := 1))) (lg_attr (i := 2) T.k_Sender (lp_var (i := 0)))) (lss_one (ls_asg (le_p lp_non) (lg_attr (i := 8) T.k_Sender (lp_var (i := 0)))))), law_Sender_end A⟩
theorem ok_Sender_begin (F : L2.Fun K "begin" "Sender.begin" st_Sender_begin A.f_Sender_begin fd) (b : Binds K fd ["self", "now"] []) (T : Txt K mg A) (G_Clock_pass_to : Fn P w K mg base 4 A.f_Clock_pass_to (sp_Clock_pass_to A)) (G_Sender_end : Fn P w K mg base 1 A.f_Sender_end (sp_Sender_end A)) (G_first : Fn P w K mg base 1 A.f_first (pureSp g_first)) (G_single : Fn P w K mg base 1 A.f_single (pureSp g_single)) (X_DeedWrong : XMk P w K mg base 2 A.DeedWrong B "DeedWrong") : Fn P w K mg base 5 A.f_Sender_begin (sp_Sender_begin A) :=
  fn_ok (k := 4) (m := 0) F b sc_Sender_begin rfl (len_Sender_begin A) fun cdv AA outer s H E hr cx => ⟨T_Sender_begin A, (lss_cons (ls_expr (le_meth T.k_Clock T.h_Clock_pass_to G_Clock_pass_to cx.tk hr (by decide) (lp_fld (i := 3) T.k_Sender (lp_var (i := 0))) (la_p (lpa_cons (lp_var (i := 1)) lpa_nil)) (hno := by show ¬ ("pass_to" : Str) ∈ (["now"] : List Str); decide +kernel))) (lss_cons (ls_if (lb_p (lpb_cm (cf_ne hr.units) (lp_fld (i := 2) T.k_Sender (lp_var (i := 0))) lp_str)) (lss_one (ls_raise X_DeedWrong cx hr (by decide) T.g_DeedWrong (la_p (lpa_cons lp_str lpa_nil)))) lss_nil) (lss_cons (ls_if (lb_p (lpb_cm cf_lt (lp_len T.z_len (lpa_cons (lp_fld (i := 0) T.k_Sender (lp_var (i := 0))) lpa_nil)) lp_int)) (lss_cons (ls_expr (le_meth T.k_Sender T.h_Sender_end G_Sender_end cx.tk hr (by decide) (lp_var (i := 0)) (la_p (lpa_cons lp_str lpa_nil)) (hno := by show ¬ ("end" : Str) ∈ (["data", "waits", "state", "clock", "at", "number", "left", "gap", "bell"] : List Str); decide +kernel))) (lss_one (ls_ret (le_p (lp_lst (lpa_cons (lp_tup (lpa_cons (lp_var (i := 1)) (lpa_cons (lp_call G_single hr (by decide) T.g_single (lpa_cons (lp_fld (i := 0) T.k_Sender (lp_var (i := 0))) lpa_nil)) lpa_nil))) lpa_nil)))))) lss_nil) (lss_cons (ls_asg (le_p lp_str) (lg_attr (i := 2) T.k_Sender (lp_var (i := 0)))) (lss_cons (ls_asg (le_p lp_int) (lg_attr (i := 4) T.k_Sender (lp_var (i := 0)))) (lss_cons (ls_asg (le_p (lp_bin of_add (lp_var (i := 1)) (lp_globI T.i_LATE))) (lg_attr (i := 8) T.k_Sender (lp_var (i := 0)))) (lss_one (ls_ret (le_p (lp_lst (lpa_cons (lp_tup (lpa_cons (lp_var (i := 1)) (lpa_cons (lp_call G_first hr (by decide) T.g_first (lpa_cons (lp_fld (i := 0) T.k_Sender (lp_var (i := 0))) lpa_nil)) lpa_nil))) lpa_nil))))))))))), law_Sender_begin A⟩
theorem ok_Sender_go_on (F : L2.Fun K "go_on" "Sender.go_on" st_Sender_go_on A.f_Sender_go_on fd) (b : Binds K fd ["self", "now"] []) (T : Txt K mg A) (G_Clock_pass_to : Fn P w K mg base 4 A.f_Clock_pass_to (sp_Clock_pass_to A)) (G_Sender_end : Fn P w K mg base 1 A.f_Sender_end (sp_Sender_end A)) (G_Sender_send_next : Fn P w K mg base 2 A.f_Sender_send_next (sp_Sender_send_next A)) : Fn P w K mg base 5 A.f_Sender_go_on (sp_Sender_go_on A) :=
  fn_ok (k := 4) (m := 1) F b sc_Sender_go_on rfl (len_Sender_go_on A) fun cdv AA outer s H E hr cx => ⟨T_Sender_go_on A, (lss_cons (ls_set (i := 2) cx.nd (le_p (lp_lst lpa_nil))) (lss_cons (ls_expr (le_meth T.k_Clock T.h_Clock_pass_to G_Clock_pass_to cx.tk hr (by decide) (lp_fld (i := 3) T.k_Sender (lp_var (i := 0))) (la_p (lpa_cons (lp_var (i := 1)) lpa_nil)) (hno := by show ¬ ("pass_to" : Str) ∈ (["now"] : List Str); decide +kernel))) (lss_cons (ls_while cx (lb_p (LPW.tst (lpw_and (lpb_notN (lp_fld (i := 8) T.k_Sender (lp_var (i := 0)))) (lpw_and1 (lpb_cm cf_le (lp_fld (i := 8) T.k_Sender (lp_var (i := 0))) (lp_var (i := 1))))))) (lss_one (ls_if (lb_p (lpb_cm (cf_eq hr.units) (lp_fld (i := 2) T.k_Sender (lp_var (i := 0))) lp_str)) (lss_one (ls_expr (le_meth T.k_Sender T.h_Sender_end G_Sender_end cx.tk hr (by decide) (lp_var (i := 0)) (la_p (lpa_cons lp_str lpa_nil)) (hno := by show ¬ ("end" : Str) ∈ (["data", "waits", "state", "clock", "at", "number", "left", "gap", "bell"] : List Str); decide +kernel)))) (lss_one (ls_set (i := 2) cx.nd (le_bin of_add (le_p (lp_var (i := 2))) (le_meth T.k_Sender T.h_Sender_send_next G_Sender_send_next cx.tk hr (by decide) (lp_var (i := 0)) (la_p (lpa_cons (lp_fld (i := 8) T.k_Sender (lp_var (i := 0))) lpa_nil)) (hno := by show ¬ ("send_next" : Str) ∈ (["data", "waits", "state", "clock", "at", "number", "left", "gap", "bell"] : List Str); decide +kernel)))))))) (lss_one (ls_ret (le_p (lp_var (i := 2)))))))), law_Sender_go_on A⟩
theorem ok_Sender_send_next (F : L2.Fun K "send_next" "Sender.send_next" st_Sender_send_next A.f_Sender_send_next fd) (b : Binds K fd ["self", "now"] []) (T : Txt K mg A) (G_Sender_end : Fn P w K mg base 1 A.f_Sender_end (sp_Sender_end A)) (G_next_part : Fn P w K mg base 1 A.f_next_part (pureSp g_next_part)) : Fn P w K mg base 2 A.f_Sender_send_next (sp_Sender_send_next A) :=
  fn_ok (k := 1) (m := 1) F b sc_Sender_send_next rfl (len_Sender_send_next A) fun cdv AA outer s H E hr cx => ⟨T_Sender_send_next A, (lss_cons (ls_asg (le_p (lp_bin of_and (lp_bin of_add (lp_fld (i := 5) T.k_Sender (lp_var (i := 0))) lp_int) lp_int)) (lg_attr (i := 5) T.k_Sender (lp_var (i := 0)))) (lss_cons (ls_set (i := 2) cx.nd (le_p (lp_call G_next_part hr (by decide) T.g_next_part (lpa_cons (lp_fld (i := 5) T.k_Sender (lp_var (i := 0))) (lpa_cons (lp_sl (lp_fld (i := 0) T.k_Sender (lp_var (i := 0))) (lpo_some (lp_fld (i := 4) T.k_Sender (lp_var (i := 0)))) (lpo_some (lp_bin of_add (lp_fld (i := 4) T.k_Sender (lp_var (i := 0))) lp_int))) lpa_nil))))) (lss_cons (ls_fldaug (i := 4) if_add T.k_Sender (lp_var (i := 0)) (le_p lp_int)) (lss_cons (ls_if (lb_p (lpb_notN (lp_fld (i := 6) T.k_Sender (lp_var (i := 0))))) (lss_one (ls_fldaug (i := 6) if_sub T.k_Sender (lp_var (i := 0)) (le_p lp_int))) lss_nil) (lss_cons (ls_if (lb_p (lpb_cm cf_ge (lp_fld (i := 4) T.k_Sender (lp_var (i := 0))) (lp_len T.z_len (lpa_cons (lp_fld (i := 0) T.k_Sender (lp_var (i := 0))) lpa_nil)))) (lss_one (ls_expr (le_meth T.k_Sender T.h_Sender_end G_Sender_end cx.tk hr (by decide) (lp_var (i := 0)) (la_p (lpa_cons lp_str lpa_nil)) (hno := by show ¬ ("end" : Str) ∈ (["data", "waits", "state", "clock", "at", "number", "left", "gap", "bell"] : List Str); decide +kernel)))) (lss_one (ls_if (lb_p (lpb_cm (cf_eq hr.units) (lp_fld (i := 6) T.k_Sender (lp_var (i := 0))) lp_int)) (lss_cons (ls_asg (le_p lp_str) (lg_attr (i := 2) T.k_Sender (lp_var (i := 0)))) (lss_one (ls_asg (le_p (lp_bin of_add (lp_var (i := 1)) (lp_globI T.i_LATE))) (lg_attr (i := 8) T.k_Sender (lp_var (i := 0)))))) (lss_one (ls_asg (le_p (lp_bin of_add (lp_var (i := 1)) (lp_fld (i := 7) T.k_Sender (lp_var (i := 0))))) (lg_attr (i := 8) T.k_Sender (lp_var (i := 0)))))))) (lss_one (ls_ret (le_p (lp_lst (lpa_cons (lp_tup (lpa_cons (lp_var (i := 1)) (lpa_cons (lp_var (i := 2)) lpa_nil))) lpa_nil)))))))))), law_Sender_send_next A⟩
theorem ok_Sender_get (F : L2.Fun K "get" "Sender.get" st_Sender_get A.f_Sender_get fd) (b : Binds K fd ["self", "octets", "now"] []) (T : Txt K mg A) (G_Sender_end : Fn P w K mg base 1 A.f_Sender_end (sp_Sender_end A)) (G_Sender_go_on : Fn P w K mg base 5 A.f_Sender_go_on (sp_Sender_go_on A)) (G_gap_of : Fn P w K mg base 1 A.f_gap_of (pureSp g_gap_of)) (G_told_by : Fn P w K mg base 3 A.f_told_by (pureSp g_told_by)) : Fn P w K mg base 6 A.f_Sender_get (sp_Sender_get A) :=
  fn_ok (k := 5) (m := 2) F b sc_Sender_get rfl (len_Sender_get A) fun cdv AA outer s H E hr cx => ⟨T_Sender_get A, (lss_cons (ls_set (i := 3) cx.nd (le_meth T.k_Sender T.h_Sender_go_on G_Sender_go_on cx.tk hr (by decide) (lp_var (i := 0)) (la_p (lpa_cons (lp_var (i := 2)) lpa_nil)) (hno := by show ¬ ("go_on" : Str) ∈ (["data", "waits", "state", "clock", "at", "number", "left", "gap", "bell"] : List Str); decide +kernel))) (lss_cons (ls_set (i := 4) cx.nd (le_p (lp_call G_told_by hr (by decide) T.g_told_by (lpa_cons (lp_var (i := 1)) lpa_nil)))) (lss_cons (ls_if (lb_p (LPW.tst (lpw_or (lpb_cm (cf_ne hr.units) (lp_fld (i := 2) T.k_Sender (lp_var (i := 0))) lp_str) (lpw_or (lpb_isN (lp_var (i := 4))) (lpw_or1 (lpb_cm (cf_ne hr.units) (lp_ix (lp_var (i := 4)) lp_int) lp_str)))))) (lss_one (ls_ret (le_p (lp_var (i := 3))))) lss_nil) (lss_cons (ls_if (lb_p (lpb_cm (cf_eq hr.units) (lp_ix (lp_var (i := 4)) lp_int) lp_int)) (lss_cons (ls_fldaug (i := 1) if_sub T.k_Sender (lp_var (i := 0)) (le_p lp_int)) (lss_cons (ls_asg (le_p (lp_bin of_add (lp_var (i := 2)) (lp_globI T.i_LATE))) (lg_attr (i := 8) T.k_Sender (lp_var (i := 0)))) (lss_cons (ls_if (lb_p (lpb_cm cf_lt (lp_fld (i := 1) T.k_Sender (lp_var (i := 0))) lp_int)) (lss_one (ls_expr (le_meth T.k_Sender T.h_Sender_end G_Sender_end cx.tk hr (by decide) (lp_var (i := 0)) (la_p (lpa_cons lp_str lpa_nil)) (hno := by show ¬ ("end" : Str) ∈ (["data", "waits", "state", "clock", "at", "number", "left", "gap", "bell"] : List Str); decide +kernel)))) lss_nil) (lss_one (ls_ret (le_p (lp_var (i := 3)))))))) lss_nil) (lss_cons (ls_if (lb_p (lpb_cm (cf_ne hr.units) (lp_ix (lp_var (i := 4)) lp_int) lp_int)) (lss_cons (ls_expr (le_meth T.k_Sender T.h_Sender_end G_Sender_end cx.tk hr (by decide) (lp_var (i := 0)) (la_p (lpa_cons (lp_ifExp (lpb_cm (cf_eq hr.units) (lp_ix (lp_var (i := 4)) lp_int) lp_int) lp_str lp_str) lpa_nil)) (hno := by show ¬ ("end" : Str) ∈ (["data", "waits", "state", "clock", "at", "number", "left", "gap", "bell"] : List Str); decide +kernel))) (lss_one (ls_ret (le_p (lp_var (i := 3)))))) lss_nil) (lss_cons (ls_asg (le_p lp_str) (lg_attr (i := 2) T.k_Sender (lp_var (i := 0)))) (lss_cons (ls_asg (le_p (lp_ifExp (lpb_cm cf_gt (lp_ix (lp_var (i := 4)) lp_int) lp_int) (lp_ix (lp_var (i := 4)) lp_int) lp_non)) (lg_attr (i := 6) T.k_Sender (lp_var (i := 0)))) (lss_cons (ls_asg (le_p (lp_call G_gap_of hr (by decide) T.g_gap_of (lpa_cons (lp_ix (lp_var (i := 4)) lp_int) lpa_nil))) (lg_attr (i := 7) T.k_Sender (lp_var (i := 0)))) (lss_cons (ls_asg (le_p (lp_var (i := 2))) (lg_attr (i := 8) T.k_Sender (lp_var (i := 0)))) (lss_one (ls_ret (le_bin of_add (le_p (lp_var (i := 3))) (le_meth T.k_Sender T.h_Sender_go_on G_Sender_go_on cx.tk hr (by decide) (lp_var (i := 0)) (la_p (lpa_cons (lp_var (i := 2)) lpa_nil)) (hno := by show ¬ ("go_on" : Str) ∈ (["data", "waits", "state", "clock", "at", "number", "left", "gap", "bell"] : List Str); decide +kernel)))))))))))))), law_Sender_get A⟩
theorem ok__law_draws (F : L2.Fun K "_law_draws" "_law_draws" st__law_draws A.f__law_draws fd) (b : Binds K fd ["script"] []) (T : Txt K mg A) : Fn P w K mg base 1 A.f__law_draws (sp__law_draws A) :=
  fn_ok (k := 0) (m := 0) F b sc__law_draws rfl (len__law_draws A) fun cdv AA outer s H E hr cx => ⟨T__law_draws A, (lss_one (ls_ret (le_lstM (la_p (lpa_cons (lp_list T.z_list (lpa_cons (lp_var (i := 0)) lpa_nil)) (lpa_cons lp_int (lpa_cons lp_int (lpa_cons lp_int lpa_nil)))))))), law__law_draws A⟩
theorem ok__law_draw (F : L2.Fun K "_law_draw" "_law_draw" st__law_draw A.f__law_draw fd) (b : Binds K fd ["draws", "limit"] []) (T : Txt K mg A) : Fn P w K mg base 1 A.f__law_draw (sp__law_draw A) :=
  fn_ok (k := 0) (m := 2) F b sc__law_draw rfl (len__law_draw A) fun cdv AA outer s H E hr cx => ⟨T__law_draw A, (lss_cons (ls_if (lb_p (LPW.tst (lpw_and (lpb_cm (cf_eq hr.units) (lp_ix (lp_var (i := 0)) lp_int) lp_int) (lpw_and1 (lpb_cm cf_lt (lp_ix (lp_var (i := 0)) lp_int) (lp_len T.z_len (lpa_cons (lp_ix (lp_var (i := 0)) lp_int) lpa_nil))))))) (lss_cons (ls_set (i := 2) cx.nd (le_p (lp_ix (lp_ix (lp_var (i := 0)) lp_int) (lp_ix (lp_var (i := 0)) lp_int)))) (lss_cons (ls_asg (le_p (lp_bin of_add (lp_ix (lp_var (i := 0)) lp_int) lp_int)) (lg_ix (lp_var (i := 0)) lp_int)) (lss_cons (ls_if (lb_p (lpb_cm cf_ge (lp_var (i := 2)) (lp_bin of_pow lp_int lp_int))) (lss_one (ls_asg (le_p (lp_var (i := 2))) (lg_ix (lp_var (i := 0)) lp_int))) lss_nil) (lss_one (ls_asg (le_p (lp_bin of_mod (lp_toInt T.z_int (lpa_cons (lp_bin of_add (lp_bin of_add (lp_bin of_mul (lp_ix (lp_var (i := 0)) lp_int) lp_int) (lp_var (i := 2))) lp_int) lpa_nil)) lp_int)) (lg_ix (lp_var (i := 0)) lp_int)))))) lss_nil) (lss_cons (ls_if (lb_p (lpb_cm cf_gt (lp_ix (lp_var (i := 0)) lp_int) lp_int)) (lss_cons (ls_set (i := 3) cx.nd (le_p (lp_bin of_mod (lp_toInt T.z_int (lpa_cons (lp_ix (lp_var (i := 0)) lp_int) lpa_nil)) (lp_var (i := 1))))) (lss_cons (ls_asg (le_p (lp_bin of_fdiv (lp_ix (lp_var (i := 0)) lp_int) (lp_var (i := 1)))) (lg_ix (lp_var (i := 0)) lp_int)) (lss_one (ls_ret (le_p (lp_var (i := 3))))))) lss_nil) (lss_cons (ls_asg (le_p (lp_bin of_mod (lp_toInt T.z_int (lpa_cons (lp_bin of_add (lp_bin of_mul (lp_ix (lp_var (i := 0)) lp_int) lp_int) lp_int) lpa_nil)) lp_int)) (lg_ix (lp_var (i := 0)) lp_int)) (lss_one (ls_ret (le_p (lp_bin of_mod (lp_toInt T.z_int (lpa_cons (lp_bin of_fdiv (lp_ix (lp_var (i := 0)) lp_int) lp_int) lpa_nil)) (lp_var (i := 1))))))))), law__law_draw A⟩
theorem ok0__law_same (F : L2.Fun K "_law_same" "_law_same" st__law_same A.f__law_same fd) (b : Binds K fd ["x", "due"] []) : Fn P w K mg base 1 A.f__law_same (pureSp (g__law_same 0)) :=
  fn_ok (k := 0) (m := 3) F b sc__law_same rfl (fun ds S Φ Ψ h => (no_same0 h).elim) fun cdv AA outer s H E hr cx => ⟨sDead, lss_dead, fun ds S Φ Ψ h => (no_same0 h).elim⟩
theorem okS__law_same {n : Nat} (F : L2.Fun K "_law_same" "_law_same" st__law_same A.f__law_same fd) (b : Binds K fd ["x", "due"] []) (T : Txt K mg A) (G : Fn P w K mg base (n + 1) A.f__law_same (pureSp (g__law_same n))) : Fn P w K mg base (n + 2) A.f__law_same (pureSp (g__law_same (n + 1))) :=
  fn_ok (k := n + 1) (m := 3) F b sc__law_same rfl len__law_same fun cdv AA outer s H E hr cx => ⟨T__law_same A n, (lss_cons (ls_if (lb_p (lpb_isN (lp_var (i := 1)))) (lss_one (ls_ret (le_p (lp_isN (lp_var (i := 0)))))) lss_nil) (lss_cons (ls_if (lb_p (lpb_tru (lp_isi T.z_isinstance T.z_bool boot_bool' (lp_var (i := 1))))) (lss_one (ls_ret (le_p (lp_and (lp_isi T.z_isinstance T.z_bool boot_bool' (lp_var (i := 0))) (lp_one (lp_cm (cf_eq hr.units) (lp_var (i := 0)) (lp_var (i := 1)))))))) lss_nil) (lss_cons (ls_if (lb_p (lpb_tru (lp_isi T.z_isinstance T.z_int boot_int' (lp_var (i := 1))))) (lss_one (ls_ret (le_p (lp_and (lp_isi T.z_isinstance T.z_int boot_int' (lp_var (i := 0))) (lp_and (lp_not (lp_isi T.z_isinstance T.z_bool boot_bool' (lp_var (i := 0)))) (lp_one (lp_cm (cf_eq hr.units) (lp_var (i := 0)) (lp_var (i := 1))))))))) lss_nil) (lss_cons (ls_if (lb_p (lpb_tru (lp_isi T.z_isinstance T.z_str boot_str' (lp_var (i := 1))))) (lss_one (ls_ret (le_p (lp_and (lp_isi T.z_isinstance T.z_str boot_str' (lp_var (i := 0))) (lp_one (lp_cm (cf_eq hr.units) (lp_var (i := 0)) (lp_var (i := 1)))))))) lss_nil) (lss_cons (ls_if (lb_p (lpb_tru (lp_isi T.z_isinstance T.z_dict boot_dict' (lp_var (i := 1))))) lss_dead lss_nil) (lss_cons (ls_if (lb_p (lpb_tru (lp_isi T.z_isinstance T.z_list boot_list' (lp_var (i := 1))))) (lss_one (ls_set (i := 3) cx.nd (le_p (lp_isi T.z_isinstance T.z_list boot_list' (lp_var (i := 0)))))) (lss_one (ls_set (i := 3) cx.nd (le_p (lp_isi T.z_isinstance T.z_tuple boot_tuple' (lp_var (i := 0))))))) (lss_one (ls_ret (le_p (lp_and (lp_var (i := 3)) (lp_and (lp_cm (cf_eq hr.units) (lp_len T.z_len (lpa_cons (lp_var (i := 0)) lpa_nil)) (lp_len T.z_len (lpa_cons (lp_var (i := 1)) lpa_nil))) (lp_one (lp_all cx.calm T.z_all (lpa_cons (lp_lc (own := [("at", 4)]) cx.calm cx.nd (li_pr1 T.z_range (lpa_cons (lp_len T.z_len (lpa_cons (lp_var (i := 1)) lpa_nil)) lpa_nil)) tg1 (fun _ _ _ _ _ => pg_name (i := 4) cx.nd rfl (Or.inl rfl) (Or.inr rfl)) (fun _ _ _ _ _ => lpts_nil) (fun _ _ _ _ _ => (lp_call G hr (Nat.le_refl _) T.g__law_same (lpa_cons (lp_ix (lp_var (i := 0)) (lp_var (i := 4))) (lpa_cons (lp_ix (lp_var (i := 1)) (lp_var (i := 4))) lpa_nil)))) (blkOk_by (by show blkC ["x", "due", "key", "right", "at"] (defScope st__law_same) _ _ = true; decide +kernel))) lpa_nil)))))))))))))), law__law_same A n⟩
theorem ok__law_same (F : L2.Fun K "_law_same" "_law_same" st__law_same A.f__law_same fd) (b : Binds K fd ["x", "due"] []) (T : Txt K mg A) : ∀ n, Fn P w K mg base (n + 1) A.f__law_same (pureSp (g__law_same n))
  | 0 => ok0__law_same F b
  | n + 1 => okS__law_same F b T (ok__law_same F b T n)
theorem ok__law_new_sender (F : L2.Fun K "_law_new_sender" "_law_new_sender" st__law_new_sender A.f__law_new_sender fd) (b : Binds K fd ["data", "waits"] []) (T : Txt K mg A) : Fn P w K mg base 1 A.f__law_new_sender (sp__law_new_sender A) :=
  fn_ok (k := 0) (m := 0) F b sc__law_new_sender rfl (len__law_new_sender A) fun cdv AA outer s H E hr cx => ⟨T__law_new_sender A, (lss_one (ls_ret (le_dic (LDs.cons (le_p (lp_var (i := 0))) (LDs.cons (le_p (lp_var (i := 1))) (LDs.cons (le_p lp_str) (LDs.cons (le_p lp_int) (LDs.cons (le_p lp_int) (LDs.cons (le_p lp_non) (LDs.cons (le_p lp_int) (LDs.cons (le_p lp_non) (LDs.cons (le_p lp_int) LDs.nil)))))))))))), law__law_new_sender A⟩
theorem ok__law_sender_next (F : L2.Fun K "_law_sender_next" "_law_sender_next" st__law_sender_next A.f__law_sender_next fd) (b : Binds K fd ["own", "now"] []) (T : Txt K mg A) : Fn P w K mg base 1 A.f__law_sender_next (sp__law_sender_next A) :=
  fn_ok (k := 0) (m := 1) F b sc__law_sender_next rfl (len__law_sender_next A) fun cdv AA outer s H E hr cx => ⟨T__law_sender_next A, (lss_cons (ls_asg (le_p (lp_bin of_mod (lp_toInt T.z_int (lpa_cons (lp_bin of_add (lp_key (ks := dKeys ["data", "waits", "state", "at", "number", "left", "gap", "bell", "now"]) (i := 4) (by decide +kernel) (hu_of hr) (lp_var (i := 0))) lp_int) lpa_nil)) lp_int)) (lg_key (ks := dKeys ["data", "waits", "state", "at", "number", "left", "gap", "bell", "now"]) (i := 4) (by decide +kernel) (by decide +kernel) (hu_of hr) (lp_var (i := 0)))) (lss_cons (ls_set (i := 2) cx.nd (le_p (lp_bin of_add (lp_lst (lpa_cons (lp_bin of_add lp_int (lp_key (ks := dKeys ["data", "waits", "state", "at", "number", "left", "gap", "bell", "now"]) (i := 4) (by decide +kernel) (hu_of hr) (lp_var (i := 0)))) lpa_nil)) (lp_sl (lp_key (ks := dKeys ["data", "waits", "state", "at", "number", "left", "gap", "bell", "now"]) (i := 0) (by decide +kernel) (hu_of hr) (lp_var (i := 0))) (lpo_some (lp_key (ks := dKeys ["data", "waits", "state", "at", "number", "left", "gap", "bell", "now"]) (i := 3) (by decide +kernel) (hu_of hr) (lp_var (i := 0)))) (lpo_some (lp_bin of_add (lp_key (ks := dKeys ["data", "waits", "state", "at", "number", "left", "gap", "bell", "now"]) (i := 3) (by decide +kernel) (hu_of hr) (lp_var (i := 0))) lp_int)))))) (lss_cons (ls_asg (le_p (lp_bin of_add (lp_key (ks := dKeys ["data", "waits", "state", "at", "number", "left", "gap", "bell", "now"]) (i := 3) (by decide +kernel) (hu_of hr) (lp_var (i := 0))) lp_int)) (lg_key (ks := dKeys ["data", "waits", "state", "at", "number", "left", "gap", "bell", "now"]) (i := 3) (by decide +kernel) (by decide +kernel) (hu_of hr) (lp_var (i := 0)))) (lss_cons (ls_asg (le_p (lp_ifExp (lpb_isN (lp_key (ks := dKeys ["data", "waits", "state", "at", "number", "left", "gap", "bell", "now"]) (i := 5) (by decide +kernel) (hu_of hr) (lp_var (i := 0)))) lp_non (lp_bin of_sub (lp_key (ks := dKeys ["data", "waits", "state", "at", "number", "left", "gap", "bell", "now"]) (i := 5) (by decide +kernel) (hu_of hr) (lp_var (i := 0))) lp_int))) (lg_key (ks := dKeys ["data", "waits", "state", "at", "number", "left", "gap", "bell", "now"]) (i := 5) (by decide +kernel) (by decide +kernel) (hu_of hr) (lp_var (i := 0)))) (lss_cons (ls_if (lb_p (lpb_cm cf_ge (lp_key (ks := dKeys ["data", "waits", "state", "at", "number", "left", "gap", "bell", "now"]) (i := 3) (by decide +kernel) (hu_of hr) (lp_var (i := 0))) (lp_len T.z_len (lpa_cons (lp_key (ks := dKeys ["data", "waits", "state", "at", "number", "left", "gap", "bell", "now"]) (i := 0) (by decide +kernel) (hu_of hr) (lp_var (i := 0))) lpa_nil)))) (lss_one (ls_asg (le_p (lp_tup (lpa_cons lp_str (lpa_cons lp_non lpa_nil)))) (lg_tup2 cx.calm (lg_key (ks := dKeys ["data", "waits", "state", "at", "number", "left", "gap", "bell", "now"]) (i := 2) (by decide +kernel) (by decide +kernel) (hu_of hr) (lp_var (i := 0))) (lg_key (ks := dKeys ["data", "waits", "state", "at", "number", "left", "gap", "bell", "now"]) (i := 7) (by decide +kernel) (by decide +kernel) (hu_of hr) (lp_var (i := 0)))))) (lss_one (ls_if (lb_p (lpb_cm (cf_eq hr.units) (lp_key (ks := dKeys ["data", "waits", "state", "at", "number", "left", "gap", "bell", "now"]) (i := 5) (by decide +kernel) (hu_of hr) (lp_var (i := 0))) lp_int)) (lss_one (ls_asg (le_p (lp_tup (lpa_cons lp_str (lpa_cons (lp_bin of_add (lp_var (i := 1)) lp_int) lpa_nil)))) (lg_tup2 cx.calm (lg_key (ks := dKeys ["data", "waits", "state", "at", "number", "left", "gap", "bell", "now"]) (i := 2) (by decide +kernel) (by decide +kernel) (hu_of hr) (lp_var (i := 0))) (lg_key (ks := dKeys ["data", "waits", "state", "at", "number", "left", "gap", "bell", "now"]) (i := 7) (by decide +kernel) (by decide +kernel) (hu_of hr) (lp_var (i := 0)))))) (lss_one (ls_asg (le_p (lp_bin of_add (lp_var (i := 1)) (lp_key (ks := dKeys ["data", "waits", "state", "at", "number", "left", "gap", "bell", "now"]) (i := 6) (by decide +kernel) (hu_of hr) (lp_var (i := 0))))) (lg_key (ks := dKeys ["data", "waits", "state", "at", "number", "left", "gap", "bell", "now"]) (i := 7) (by decide +kernel) (by decide +kernel) (hu_of hr) (lp_var (i := 0)))))))) (lss_one (ls_ret (le_p (lp_lst (lpa_cons (lp_tup (lpa_cons (lp_var (i := 1)) (lpa_cons (lp_var (i := 2)) lpa_nil))) lpa_nil)))))))))), law__law_sender_next A⟩
theorem ok__law_sender_on (F : L2.Fun K "_law_sender_on" "_law_sender_on" st__law_sender_on A.f__law_sender_on fd) (b : Binds K fd ["own", "now"] []) (T : Txt K mg A) (G__law_sender_next : Fn P w K mg base 1 A.f__law_sender_next (sp__law_sender_next A)) : Fn P w K mg base 2 A.f__law_sender_on (sp__law_sender_on A) :=
  fn_ok (k := 1) (m := 1) F b sc__law_sender_on rfl (len__law_sender_on A) fun cdv AA outer s H E hr cx => ⟨T__law_sender_on A, (lss_cons (ls_set (i := 2) cx.nd (le_p (lp_lst lpa_nil))) (lss_cons (ls_asg (le_p (lp_var (i := 1))) (lg_key (ks := dKeys ["data", "waits", "state", "at", "number", "left", "gap", "bell", "now"]) (i := 8) (by decide +kernel) (by decide +kernel) (hu_of hr) (lp_var (i := 0)))) (lss_cons (ls_while cx (lb_p (LPW.tst (lpw_and (lpb_notN (lp_key (ks := dKeys ["data", "waits", "state", "at", "number", "left", "gap", "bell", "now"]) (i := 7) (by decide +kernel) (hu_of hr) (lp_var (i := 0)))) (lpw_and1 (lpb_cm cf_le (lp_key (ks := dKeys ["data", "waits", "state", "at", "number", "left", "gap", "bell", "now"]) (i := 7) (by decide +kernel) (hu_of hr) (lp_var (i := 0))) (lp_var (i := 1))))))) (lss_one (ls_if (lb_p (lpb_cm (cf_eq hr.units) (lp_key (ks := dKeys ["data", "waits", "state", "at", "number", "left", "gap", "bell", "now"]) (i := 2) (by decide +kernel) (hu_of hr) (lp_var (i := 0))) lp_str)) (lss_one (ls_asg (le_p (lp_tup (lpa_cons lp_str (lpa_cons lp_non lpa_nil)))) (lg_tup2 cx.calm (lg_key (ks := dKeys ["data", "waits", "state", "at", "number", "left", "gap", "bell", "now"]) (i := 2) (by decide +kernel) (by decide +kernel) (hu_of hr) (lp_var (i := 0))) (lg_key (ks := dKeys ["data", "waits", "state", "at", "number", "left", "gap", "bell", "now"]) (i := 7) (by decide +kernel) (by decide +kernel) (hu_of hr) (lp_var (i := 0)))))) (lss_one (ls_set (i := 2) cx.nd (le_bin of_add (le_p (lp_var (i := 2))) (le_call G__law_sender_next cx.tk hr (by decide) T.g__law_sender_next (la_p (lpa_cons (lp_var (i := 0)) (lpa_cons (lp_key (ks := dKeys ["data", "waits", "state", "at", "number", "left", "gap", "bell", "now"]) (i := 7) (by decide +kernel) (hu_of hr) (lp_var (i := 0))) lpa_nil)))))))))) (lss_one (ls_ret (le_p (lp_var (i := 2)))))))), law__law_sender_on A⟩
theorem ok__law_sender_begins (F : L2.Fun K "_law_sender_begins" "_law_sender_begins" st__law_sender_begins A.f__law_sender_begins fd) (b : Binds K fd ["own", "now"] []) (T : Txt K mg A) : Fn P w K mg base 1 A.f__law_sender_begins (sp__law_sender_begins A) :=
  fn_ok (k := 0) (m := 1) F b sc__law_sender_begins rfl (len__law_sender_begins A) fun cdv AA outer s H E hr cx => ⟨T__law_sender_begins A, (lss_cons (ls_asg (le_p (lp_var (i := 1))) (lg_key (ks := dKeys ["data", "waits", "state", "at", "number", "left", "gap", "bell", "now"]) (i := 8) (by decide +kernel) (by decide +kernel) (hu_of hr) (lp_var (i := 0)))) (lss_cons (ls_set (i := 2) cx.nd (le_p (lp_key (ks := dKeys ["data", "waits", "state", "at", "number", "left", "gap", "bell", "now"]) (i := 0) (by decide +kernel) (hu_of hr) (lp_var (i := 0))))) (lss_cons (ls_if (lb_p (lpb_cm cf_lt (lp_len T.z_len (lpa_cons (lp_var (i := 2)) lpa_nil)) lp_int)) (lss_cons (ls_asg (le_p lp_str) (lg_key (ks := dKeys ["data", "waits", "state", "at", "number", "left", "gap", "bell", "now"]) (i := 2) (by decide +kernel) (by decide +kernel) (hu_of hr) (lp_var (i := 0)))) (lss_one (ls_ret (le_p (lp_lst (lpa_cons (lp_tup (lpa_cons (lp_var (i := 1)) (lpa_cons (lp_bin of_add (lp_lst (lpa_cons (lp_len T.z_len (lpa_cons (lp_var (i := 2)) lpa_nil)) lpa_nil)) (lp_var (i := 2))) lpa_nil))) lpa_nil)))))) lss_nil) (lss_cons (ls_asg (le_p (lp_tup (lpa_cons lp_str (lpa_cons (lp_bin of_add (lp_var (i := 1)) lp_int) lpa_nil)))) (lg_tup2 cx.calm (lg_key (ks := dKeys ["data", "waits", "state", "at", "number", "left", "gap", "bell", "now"]) (i := 2) (by decide +kernel) (by decide +kernel) (hu_of hr) (lp_var (i := 0))) (lg_key (ks := dKeys ["data", "waits", "state", "at", "number", "left", "gap", "bell", "now"]) (i := 7) (by decide +kernel) (by decide +kernel) (hu_of hr) (lp_var (i := 0))))) (lss_one (ls_ret (le_p (lp_lst (lpa_cons (lp_tup (lpa_cons (lp_var (i := 1)) (lpa_cons (lp_bin of_add (lp_lst (lpa_cons (lp_bin of_add lp_int (lp_bin of_fdiv (lp_len T.z_len (lpa_cons (lp_var (i := 2)) lpa_nil)) lp_int)) (lpa_cons (lp_bin of_mod (lp_toInt T.z_int (lpa_cons (lp_len T.z_len (lpa_cons (lp_var (i := 2)) lpa_nil)) lpa_nil)) lp_int) lpa_nil))) (lp_sl (lp_var (i := 2)) lpo_none (lpo_some lp_int))) lpa_nil))) lpa_nil))))))))), law__law_sender_begins A⟩
theorem ok__law_sender_gets (F : L2.Fun K "_law_sender_gets" "_law_sender_gets" st__law_sender_gets A.f__law_sender_gets fd) (b : Binds K fd ["own", "octets", "now"] []) (T : Txt K mg A) (G__law_sender_on : Fn P w K mg base 2 A.f__law_sender_on (sp__law_sender_on A)) : Fn P w K mg base 3 A.f__law_sender_gets (sp__law_sender_gets A) :=
  fn_ok (k := 2) (m := 2) F b sc__law_sender_gets rfl (len__law_sender_gets A) fun cdv AA outer s H E hr cx => ⟨T__law_sender_gets A, (lss_cons (ls_set (i := 3) cx.nd (le_call G__law_sender_on cx.tk hr (by decide) T.g__law_sender_on (la_p (lpa_cons (lp_var (i := 0)) (lpa_cons (lp_var (i := 2)) lpa_nil))))) (lss_cons (ls_if (lb_p (LPW.tst (lpw_or (lpb_cm (cf_ne hr.units) (lp_key (ks := dKeys ["data", "waits", "state", "at", "number", "left", "gap", "bell", "now"]) (i := 2) (by decide +kernel) (hu_of hr) (lp_var (i := 0))) lp_str) (lpw_or (lpb_not (lpb_ch cf_lt cf_lt lp_int (lp_len T.z_len (lpa_cons (lp_var (i := 1)) lpa_nil)) lp_int)) (lpw_or1 (lpb_cm (cf_ne hr.units) (lp_bin of_fdiv (lp_ix (lp_var (i := 1)) lp_int) lp_int) lp_int)))))) (lss_one (ls_ret (le_p (lp_var (i := 3))))) lss_nil) (lss_cons (ls_set (i := 4) cx.nd (le_p (lp_bin of_mod (lp_toInt T.z_int (lpa_cons (lp_ix (lp_var (i := 1)) lp_int) lpa_nil)) lp_int))) (lss_cons (ls_if (lb_p (lpb_cm (cf_eq hr.units) (lp_var (i := 4)) lp_int)) (lss_cons (ls_asg (le_p (lp_bin of_sub (lp_key (ks := dKeys ["data", "waits", "state", "at", "number", "left", "gap", "bell", "now"]) (i := 1) (by decide +kernel) (hu_of hr) (lp_var (i := 0))) lp_int)) (lg_key (ks := dKeys ["data", "waits", "state", "at", "number", "left", "gap", "bell", "now"]) (i := 1) (by decide +kernel) (by decide +kernel) (hu_of hr) (lp_var (i := 0)))) (lss_cons (ls_asg (le_p (lp_bin of_add (lp_var (i := 2)) lp_int)) (lg_key (ks := dKeys ["data", "waits", "state", "at", "number", "left", "gap", "bell", "now"]) (i := 7) (by decide +kernel) (by decide +kernel) (hu_of hr) (lp_var (i := 0)))) (lss_one (ls_if (lb_p (lpb_cm cf_lt (lp_key (ks := dKeys ["data", "waits", "state", "at", "number", "left", "gap", "bell", "now"]) (i := 1) (by decide +kernel) (hu_of hr) (lp_var (i := 0))) lp_int)) (lss_one (ls_asg (le_p (lp_tup (lpa_cons lp_str (lpa_cons lp_non lpa_nil)))) (lg_tup2 cx.calm (lg_key (ks := dKeys ["data", "waits", "state", "at", "number", "left", "gap", "bell", "now"]) (i := 2) (by decide +kernel) (by decide +kernel) (hu_of hr) (lp_var (i := 0))) (lg_key (ks := dKeys ["data", "waits", "state", "at", "number", "left", "gap", "bell", "now"]) (i := 7) (by decide +kernel) (by decide +kernel) (hu_of hr) (lp_var (i := 0)))))) lss_nil)))) (lss_one (ls_if (lb_p (lpb_cm cf_gt (lp_var (i := 4)) lp_int)) (lss_one (ls_asg (le_p (lp_tup (lpa_cons (lp_ifExp (lpb_cm (cf_eq hr.units) (lp_var (i := 4)) lp_int) lp_str lp_str) (lpa_cons lp_non lpa_nil)))) (lg_tup2 cx.calm (lg_key (ks := dKeys ["data", "waits", "state", "at", "number", "left", "gap", "bell", "now"]) (i := 2) (by decide +kernel) (by decide +kernel) (hu_of hr) (lp_var (i := 0))) (lg_key (ks := dKeys ["data", "waits", "state", "at", "number", "left", "gap", "bell", "now"]) (i := 7) (by decide +kernel) (by decide +kernel) (hu_of hr) (lp_var (i := 0)))))) (lss_cons (ls_asg (le_p (lp_tup (lpa_cons lp_str (lpa_cons (lp_var (i := 2)) lpa_nil)))) (lg_tup2 cx.calm (lg_key (ks := dKeys ["data", "waits", "state", "at", "number", "left", "gap", "bell", "now"]) (i := 2) (by decide +kernel) (by decide +kernel) (hu_of hr) (lp_var (i := 0))) (lg_key (ks := dKeys ["data", "waits", "state", "at", "number", "left", "gap", "bell", "now"]) (i := 7) (by decide +kernel) (by decide +kernel) (hu_of hr) (lp_var (i := 0))))) (lss_cons (ls_asg (le_p (lp_tup (lpa_cons (lp_ifExp (lpb_cm cf_gt (lp_ix (lp_var (i := 1)) lp_int) lp_int) (lp_ix (lp_var (i := 1)) lp_int) lp_non) (lpa_cons (lp_min cx.calm T.z_min (lpa_cons (lp_ix (lp_var (i := 1)) lp_int) (lpa_cons lp_int lpa_nil))) lpa_nil)))) (lg_tup2 cx.calm (lg_key (ks := dKeys ["data", "waits", "state", "at", "number", "left", "gap", "bell", "now"]) (i := 5) (by decide +kernel) (by decide +kernel) (hu_of hr) (lp_var (i := 0))) (lg_key (ks := dKeys ["data", "waits", "state", "at", "number", "left", "gap", "bell", "now"]) (i := 6) (by decide +kernel) (by decide +kernel) (hu_of hr) (lp_var (i := 0))))) (lss_one (ls_set (i := 3) cx.nd (le_bin of_add (le_p (lp_var (i := 3))) (le_call G__law_sender_on cx.tk hr (by decide) T.g__law_sender_on (la_p (lpa_cons (lp_var (i := 0)) (lpa_cons (lp_var (i := 2)) lpa_nil)))))))))))) (lss_one (ls_ret (le_p (lp_var (i := 3))))))))), law__law_sender_gets A⟩
theorem ok__law_called (F : L2.Fun K "_law_called" "_law_called" st__law_called A.f__law_called fd) (b : Binds K fd ["sender", "word", "thing", "now"] []) (T : Txt K mg A) (G_Sender_begin : Fn P w K mg base 5 A.f_Sender_begin (sp_Sender_begin A)) (G_Sender_get : Fn P w K mg base 6 A.f_Sender_get (sp_Sender_get A)) (G_Sender_go_on : Fn P w K mg base 5 A.f_Sender_go_on (sp_Sender_go_on A)) : Fn P w K mg base 7 A.f__law_called (sp__law_called A) :=
  fn_ok (k := 6) (m := 1) F b sc__law_called rfl (len__law_called A) fun cdv AA outer s H E hr cx => ⟨T__law_called A, (lss_one (ls_try_as (i := 4) cx ⟨rfl, by decide, .inl T.g_DeedWrong⟩ T.M_DeedWrong (fun _ _ _ cx => (lss_cons (ls_if (lb_p (lpb_cm (cf_eq hr.units) (lp_var (i := 1)) lp_str)) (lss_one (ls_ret (le_tup (la_cons (le_p lp_str) (la_cons (le_meth T.k_Sender T.h_Sender_get G_Sender_get cx.tk hr (by decide) (lp_var (i := 0)) (la_p (lpa_cons (lp_var (i := 2)) (lpa_cons (lp_var (i := 3)) lpa_nil))) (hno := by show ¬ ("get" : Str) ∈ (["data", "waits", "state", "clock", "at", "number", "left", "gap", "bell"] : List Str); decide +kernel)) la_nil))))) lss_nil) (lss_one (ls_ret (le_tup (la_cons (le_p lp_str) (la_cons (le_ifExp (lb_p (lpb_cm (cf_eq hr.units) (lp_var (i := 1)) lp_str)) (le_meth T.k_Sender T.h_Sender_begin G_Sender_begin cx.tk hr (by decide) (lp_var (i := 0)) (la_p (lpa_cons (lp_var (i := 3)) lpa_nil)) (hno := by show ¬ ("begin" : Str) ∈ (["data", "waits", "state", "clock", "at", "number", "left", "gap", "bell"] : List Str); decide +kernel)) (le_meth T.k_Sender T.h_Sender_go_on G_Sender_go_on cx.tk hr (by decide) (lp_var (i := 0)) (la_p (lpa_cons (lp_var (i := 3)) lpa_nil)) (hno := by show ¬ ("go_on" : Str) ∈ (["data", "waits", "state", "clock", "at", "number", "left", "gap", "bell"] : List Str); decide +kernel))) la_nil))))))) (fun a C dd oe pn hz hv => (lss_one (ls_ret (le_p (lp_tup (lpa_cons lp_str (lpa_cons (lp_xf T.xf_DeedWrong_at hz hv (lp_var (i := 4))) lpa_nil))))))))), law__law_called A⟩
theorem ok__law_made (F : L2.Fun K "_law_made" "_law_made" st__law_made A.f__law_made fd) (b : Binds K fd ["data"] []) (T : Txt K mg A) (G_Sender_init : Fn P w K mg base 4 A.f_Sender_init (sp_Sender_init A)) : Fn P w K mg base 6 A.f__law_made (sp__law_made A) :=
  fn_ok (k := 5) (m := 1) F b sc__law_made rfl (len__law_made A) fun cdv AA outer s H E hr cx => ⟨T__law_made A, (lss_one (ls_try_as (i := 1) cx ⟨rfl, by decide, .inl T.g_Wrong⟩ T.M_Wrong (fun _ _ _ cx => (lss_cons (ls_expr (le_make T.m_Sender G_Sender_init cx.tk hr (by decide) T.g_Sender (la_p (lpa_cons (lp_var (i := 0)) (lpa_cons lp_int lpa_nil))))) (lss_one (ls_ret (le_p lp_non))))) (fun a C dd oe pn hz hv => (lss_one (ls_ret (le_p (lp_xf T.xf_Wrong_at hz hv (lp_var (i := 1))))))))), law__law_made A⟩
theorem ok__law_flow (F : L2.Fun K "_law_flow" "_law_flow" st__law_flow A.f__law_flow fd) (b : Binds K fd ["draws"] []) (T : Txt K mg A) (G__law_draw : Fn P w K mg base 1 A.f__law_draw (sp__law_draw A)) : Fn P w K mg base 2 A.f__law_flow (sp__law_flow A) :=
  fn_ok (k := 1) (m := 2) F b sc__law_flow rfl (len__law_flow A) fun cdv AA outer s H E hr cx => ⟨T__law_flow A, (lss_cons (ls_set (i := 1) cx.nd (le_ix (le_p (lp_lst (lpa_cons lp_int (lpa_cons lp_int (lpa_cons lp_int (lpa_cons lp_int (lpa_cons lp_int (lpa_cons lp_int (lpa_cons lp_int (lpa_cons lp_int (lpa_cons lp_int lpa_nil))))))))))) (le_call G__law_draw cx.tk hr (by decide) T.g__law_draw (la_p (lpa_cons (lp_var (i := 0)) (lpa_cons lp_int lpa_nil)))))) (lss_cons (ls_set (i := 2) cx.nd (le_lst (la_cons (le_p (lp_bin of_add lp_int (lp_var (i := 1)))) (la_cons (le_ix (le_p (lp_lst (lpa_cons lp_int (lpa_cons lp_int (lpa_cons lp_int (lpa_cons lp_int (lpa_cons lp_int (lpa_cons lp_int lpa_nil)))))))) (le_call G__law_draw cx.tk hr (by decide) T.g__law_draw (la_p (lpa_cons (lp_var (i := 0)) (lpa_cons lp_int lpa_nil))))) (la_cons (le_ix (le_p (lp_lst (lpa_cons lp_int (lpa_cons lp_int (lpa_cons lp_int (lpa_cons lp_int (lpa_cons lp_int (lpa_cons lp_int (lpa_cons lp_int lpa_nil))))))))) (le_call G__law_draw cx.tk hr (by decide) T.g__law_draw (la_p (lpa_cons (lp_var (i := 0)) (lpa_cons lp_int lpa_nil))))) la_nil))))) (lss_one (ls_ret (le_ix (le_p (lp_lst (lpa_cons (lp_var (i := 2)) (lpa_cons (lp_var (i := 2)) (lpa_cons (lp_bin of_add (lp_var (i := 2)) (lp_lst (lpa_cons lp_int lpa_nil))) (lpa_cons (lp_sl (lp_var (i := 2)) lpo_none (lpo_some lp_int)) (lpa_cons (lp_lst (lpa_cons lp_int (lpa_cons lp_int (lpa_cons lp_int lpa_nil)))) (lpa_cons (lp_lst (lpa_cons lp_int (lpa_cons lp_int (lpa_cons lp_int lpa_nil)))) (lpa_cons (lp_lst lpa_nil) lpa_nil))))))))) (le_call G__law_draw cx.tk hr (by decide) T.g__law_draw (la_p (lpa_cons (lp_var (i := 0)) (lpa_cons lp_int lpa_nil))))))))), law__law_flow A⟩
theorem ok_law (F : L2.Fun K "law" "law" st_law A.f_law fd) (b : Binds K fd ["script"] []) (T : Txt K mg A) (G_Sender_due : Fn P w K mg base 1 A.f_Sender_due (sp_Sender_due A)) (G_Sender_init : Fn P w K mg base 4 A.f_Sender_init (sp_Sender_init A)) (G__law_called : Fn P w K mg base 7 A.f__law_called (sp__law_called A)) (G__law_draw : Fn P w K mg base 1 A.f__law_draw (sp__law_draw A)) (G__law_draws : Fn P w K mg base 1 A.f__law_draws (sp__law_draws A)) (G__law_flow : Fn P w K mg base 2 A.f__law_flow (sp__law_flow A)) (G__law_made : Fn P w K mg base 6 A.f__law_made (sp__law_made A)) (G__law_new_sender : Fn P w K mg base 1 A.f__law_new_sender (sp__law_new_sender A)) (G__law_same : Fn P w K mg base 9 A.f__law_same (pureSp (g__law_same 8))) (G__law_sender_begins : Fn P w K mg base 1 A.f__law_sender_begins (sp__law_sender_begins A)) (G__law_sender_gets : Fn P w K mg base 3 A.f__law_sender_gets (sp__law_sender_gets A)) (G__law_sender_on : Fn P w K mg base 2 A.f__law_sender_on (sp__law_sender_on A)) : FnOk P w K mg base (L2.CX P w) 10 A.f_law fd ["script"] (lowSp K (sp_law A)) :=
  fn_ok0 (k := 9) (m := 15) F b sc_law rfl (len_law A) fun cdv AA outer s H E hr cx => ⟨T_law A, (lss_cons (ls_set (i := 1) cx.nd (le_call G__law_draws cx.tk hr (by decide) T.g__law_draws (la_p (lpa_cons (lp_var (i := 0)) lpa_nil)))) (lss_cons (ls_for cx (li_rng1 T.z_range (la_p (lpa_cons lp_int lpa_nil))) (lg_name (i := 2) cx.nd) (lss_cons (ls_setLc (i := 3) (own := [("k", 4)]) cx.calm cx.nd (li_rng1 T.z_range (la_cons (le_ix (le_p (lp_lst (lpa_cons lp_int (lpa_cons lp_int (lpa_cons lp_int (lpa_cons lp_int (lpa_cons lp_int (lpa_cons lp_int (lpa_cons lp_int (lpa_cons lp_int lpa_nil)))))))))) (le_call G__law_draw cx.tk hr (by decide) T.g__law_draw (la_p (lpa_cons (lp_var (i := 1)) (lpa_cons lp_int lpa_nil))))) la_nil)) tg1 (fun _ _ _ _ _ => pg_name (i := 4) cx.nd rfl (Or.inl rfl) (Or.inr rfl)) (fun _ _ _ _ _ => lpts_nil) (fun _ _ _ _ _ => (lp_bin of_mod (lp_toInt T.z_int (lpa_cons (lp_bin of_add (lp_bin of_mul lp_int (lp_var (i := 4))) (lp_var (i := 2))) lpa_nil)) lp_int)) (blkOk_by (by show blkC ["script", "draws", "turn", "data", "k", "waits", "given", "sender", "own", "now", "kind", "octets", "told", "due", "back", "word"] (defScope st_law) _ _ = true; decide +kernel))) (lss_cons (ls_set (i := 5) cx.nd (le_call G__law_draw cx.tk hr (by decide) T.g__law_draw (la_p (lpa_cons (lp_var (i := 1)) (lpa_cons lp_int lpa_nil))))) (lss_cons (ls_set (i := 6) cx.nd (le_listM T.z_list (lp_var (i := 3)))) (lss_cons (ls_par (i := 7) (j := 8) cx (la_cons (le_make T.m_Sender G_Sender_init cx.tk hr (by decide) T.g_Sender (la_p (lpa_cons (lp_var (i := 6)) (lpa_cons (lp_var (i := 5)) lpa_nil)))) (la_cons (le_call G__law_new_sender cx.tk hr (by decide) T.g__law_new_sender (la_p (lpa_cons (lp_var (i := 3)) (lpa_cons (lp_var (i := 5)) lpa_nil)))) la_nil))) (lss_cons (ls_expr (le_append (lp_var (i := 6)) (la_p (lpa_cons lp_int lpa_nil)))) (lss_cons (ls_if (lb_not (lb_tru (le_call G__law_same cx.tk hr (by decide) T.g__law_same (la_cons (le_lst (la_cons (le_p (lp_fld (i := 2) T.k_Sender (lp_var (i := 7)))) (la_cons (le_meth0 T.k_Sender T.h_Sender_due G_Sender_due cx.tk hr (by decide) (lp_var (i := 7)) (hno := by show ¬ ("due" : Str) ∈ (["data", "waits", "state", "clock", "at", "number", "left", "gap", "bell"] : List Str); decide +kernel)) la_nil))) (la_cons (le_p (lp_lst (lpa_cons lp_str (lpa_cons lp_non lpa_nil)))) la_nil))))) (lss_one (ls_ret (le_p lp_bl))) lss_nil) (lss_cons (ls_set (i := 9) cx.nd (le_call G__law_draw cx.tk hr (by decide) T.g__law_draw (la_p (lpa_cons (lp_var (i := 1)) (lpa_cons lp_int lpa_nil))))) (lss_cons (ls_if (lb_not (lb_tru (le_call G__law_same cx.tk hr (by decide) T.g__law_same (la_cons (le_call G__law_called cx.tk hr (by decide) T.g__law_called (la_p (lpa_cons (lp_var (i := 7)) (lpa_cons lp_str (lpa_cons lp_non (lpa_cons (lp_var (i := 9)) lpa_nil)))))) (la_cons (le_tup (la_cons (le_p lp_str) (la_cons (le_call G__law_sender_begins cx.tk hr (by decide) T.g__law_sender_begins (la_p (lpa_cons (lp_var (i := 8)) (lpa_cons (lp_var (i := 9)) lpa_nil)))) la_nil))) la_nil))))) (lss_one (ls_ret (le_p lp_bl))) lss_nil) (lss_one (ls_for cx (li_rng1 T.z_range (la_cons (le_bin of_add (le_p lp_int) (le_call G__law_draw cx.tk hr (by decide) T.g__law_draw (la_p (lpa_cons (lp_var (i := 1)) (lpa_cons lp_int lpa_nil))))) la_nil)) (lg_name (i := 4) cx.nd) (lss_cons (ls_set (i := 9) cx.nd (le_bin of_add (le_p (lp_key (ks := dKeys ["data", "waits", "state", "at", "number", "left", "gap", "bell", "now"]) (i := 8) (by decide +kernel) (hu_of hr) (lp_var (i := 8)))) (le_ix (le_p (lp_lst (lpa_cons lp_int (lpa_cons lp_int (lpa_cons lp_int (lpa_cons lp_int (lpa_cons lp_int (lpa_cons lp_int (lpa_cons lp_int (lpa_cons lp_int (lpa_cons lp_int lpa_nil))))))))))) (le_call G__law_draw cx.tk hr (by decide) T.g__law_draw (la_p (lpa_cons (lp_var (i := 1)) (lpa_cons lp_int lpa_nil))))))) (lss_cons (ls_set (i := 10) cx.nd (le_call G__law_draw cx.tk hr (by decide) T.g__law_draw (la_p (lpa_cons (lp_var (i := 1)) (lpa_cons lp_int lpa_nil))))) (lss_cons (ls_if (lb_p (lpb_cm cf_lt (lp_var (i := 10)) lp_int)) (lss_cons (ls_set (i := 11) cx.nd (le_call G__law_flow cx.tk hr (by decide) T.g__law_flow (la_p (lpa_cons (lp_var (i := 1)) lpa_nil)))) (lss_one (ls_par (i := 12) (j := 13) cx (la_cons (le_call G__law_called cx.tk hr (by decide) T.g__law_called (la_p (lpa_cons (lp_var (i := 7)) (lpa_cons lp_str (lpa_cons (lp_var (i := 11)) (lpa_cons (lp_var (i := 9)) lpa_nil)))))) (la_cons (le_tup (la_cons (le_p lp_str) (la_cons (le_call G__law_sender_gets cx.tk hr (by decide) T.g__law_sender_gets (la_p (lpa_cons (lp_var (i := 8)) (lpa_cons (lp_var (i := 11)) (lpa_cons (lp_var (i := 9)) lpa_nil))))) la_nil))) la_nil))))) (lss_one (ls_if (lb_p (lpb_cm cf_lt (lp_var (i := 10)) lp_int)) (lss_one (ls_par (i := 12) (j := 13) cx (la_cons (le_call G__law_called cx.tk hr (by decide) T.g__law_called (la_p (lpa_cons (lp_var (i := 7)) (lpa_cons lp_str (lpa_cons lp_non (lpa_cons (lp_var (i := 9)) lpa_nil)))))) (la_cons (le_tup (la_cons (le_p lp_str) (la_cons (le_call G__law_sender_on cx.tk hr (by decide) T.g__law_sender_on (la_p (lpa_cons (lp_var (i := 8)) (lpa_cons (lp_var (i := 9)) lpa_nil)))) la_nil))) la_nil)))) (lss_cons (ls_set (i := 14) cx.nd (le_p (lp_bin of_sub (lp_key (ks := dKeys ["data", "waits", "state", "at", "number", "left", "gap", "bell", "now"]) (i := 8) (by decide +kernel) (hu_of hr) (lp_var (i := 8))) lp_int))) (lss_cons (ls_set (i := 15) cx.nd (le_ix (le_p (lp_lst (lpa_cons lp_str (lpa_cons lp_str (lpa_cons lp_str lpa_nil))))) (le_call G__law_draw cx.tk hr (by decide) T.g__law_draw (la_p (lpa_cons (lp_var (i := 1)) (lpa_cons lp_int lpa_nil)))))) (lss_cons (ls_set (i := 12) cx.nd (le_call G__law_called cx.tk hr (by decide) T.g__law_called (la_p (lpa_cons (lp_var (i := 7)) (lpa_cons (lp_var (i := 15)) (lpa_cons (lp_lst (lpa_cons lp_int (lpa_cons lp_int (lpa_cons lp_int lpa_nil)))) (lpa_cons (lp_ifExp (lpb_cm (cf_ne hr.units) (lp_var (i := 15)) lp_str) (lp_var (i := 14)) (lp_key (ks := dKeys ["data", "waits", "state", "at", "number", "left", "gap", "bell", "now"]) (i := 8) (by decide +kernel) (hu_of hr) (lp_var (i := 8)))) lpa_nil))))))) (lss_one (ls_set (i := 13) cx.nd (le_p (lp_tup (lpa_cons lp_str (lpa_cons (lp_ifExp (lpb_cm (cf_ne hr.units) (lp_var (i := 15)) lp_str) (lp_var (i := 14)) lp_str) lpa_nil)))))))))))) (lss_one (ls_if (lb_not (lb_tru (le_call G__law_same cx.tk hr (by decide) T.g__law_same (la_cons (le_lst (la_cons (le_p (lp_var (i := 12))) (la_cons (le_p (lp_fld (i := 2) T.k_Sender (lp_var (i := 7)))) (la_cons (le_meth0 T.k_Sender T.h_Sender_due G_Sender_due cx.tk hr (by decide) (lp_var (i := 7)) (hno := by show ¬ ("due" : Str) ∈ (["data", "waits", "state", "clock", "at", "number", "left", "gap", "bell"] : List Str); decide +kernel)) la_nil)))) (la_cons (le_p (lp_lst (lpa_cons (lp_var (i := 13)) (lpa_cons (lp_key (ks := dKeys ["data", "waits", "state", "at", "number", "left", "gap", "bell", "now"]) (i := 2) (by decide +kernel) (hu_of hr) (lp_var (i := 8))) (lpa_cons (lp_key (ks := dKeys ["data", "waits", "state", "at", "number", "left", "gap", "bell", "now"]) (i := 7) (by decide +kernel) (hu_of hr) (lp_var (i := 8))) lpa_nil))))) la_nil))))) (lss_one (ls_ret (le_p lp_bl))) lss_nil)))))))))))))))) (lss_one (ls_ret (le_call G__law_same cx.tk hr (by decide) T.g__law_same (la_cons (le_lst (la_cons (le_call G__law_made cx.tk hr (by decide) T.g__law_made (la_p (lpa_cons (lp_lst lpa_nil) lpa_nil))) (la_cons (le_call G__law_made cx.tk hr (by decide) T.g__law_made (la_p (lpa_cons (lp_bin of_mul (lp_lst (lpa_cons lp_int lpa_nil)) lp_int) lpa_nil))) (la_cons (le_call G__law_made cx.tk hr (by decide) T.g__law_made (la_p (lpa_cons (lp_bin of_mul (lp_lst (lpa_cons lp_int lpa_nil)) lp_int) lpa_nil))) la_nil)))) (la_cons (le_p (lp_lst (lpa_cons lp_int (lpa_cons lp_int (lpa_cons lp_non lpa_nil))))) la_nil))))))), law_law A⟩
end
end K47
set_option maxRecDepth 100000
set_option maxHeartbeats 8000000
set_option pp.maxSteps 600
namespace K47
open PySem PySem.Spec PyProof.Rows L2 Ax
abbrev row := PySem.Challenge.rw_axlewire_k47_whole_senders_of_parts
abbrev st_DeedWrong_init : Stmt := inClass (top 2) 0
theorem ss_DeedWrong : SupSc ["self", "at"] (defScope st_DeedWrong_init) := ⟨rfl, rfl, rfl, by decide +kernel, by decide +kernel, by decide +kernel, by decide +kernel, by rfl, by rfl⟩
abbrev st_Wrong_init : Stmt := inClass (top 3) 0
theorem ss_Wrong : SupSc ["self", "at"] (defScope st_Wrong_init) := ⟨rfl, rfl, rfl, by decide +kernel, by decide +kernel, by decide +kernel, by decide +kernel, by rfl, by rfl⟩
abbrev st_CarError_init : Stmt := inClass (top 1) 0
theorem ss_CarError : SupSc ["self", "at", "name"] (defScope st_CarError_init) := ⟨rfl, rfl, rfl, by decide +kernel, by decide +kernel, by decide +kernel, by decide +kernel, by rfl, by rfl⟩
theorem all_mk {w : World} {K : PySem.W.Frag} {h : Heap} {mg : Str → Option Value} {fa : Addr} (X : K.In h) (G : h.Ns mainGlobals mg) (hfa : mg "law" = some (.ref fa))
    {C_Clock : Addr}
    {C_Sender : Addr}
    {od1 an1 : Option Addr} {sl1 : Array (Option Value)} {oc1 kV1 dc1 pm1 cd1 ct1 : Value} {f_is_number : Addr}
    {od2 an2 : Option Addr} {sl2 : Array (Option Value)} {oc2 kV2 dc2 pm2 cd2 ct2 : Value} {f_is_octets : Addr}
    {od3 an3 : Option Addr} {sl3 : Array (Option Value)} {oc3 kV3 dc3 pm3 cd3 ct3 : Value} {f_single : Addr}
    {od4 an4 : Option Addr} {sl4 : Array (Option Value)} {oc4 kV4 dc4 pm4 cd4 ct4 : Value} {f_first : Addr}
    {od5 an5 : Option Addr} {sl5 : Array (Option Value)} {oc5 kV5 dc5 pm5 cd5 ct5 : Value} {f_next_part : Addr}
    {od6 an6 : Option Addr} {sl6 : Array (Option Value)} {oc6 kV6 dc6 pm6 cd6 ct6 : Value} {f_told_by : Addr}
    {od7 an7 : Option Addr} {sl7 : Array (Option Value)} {oc7 kV7 dc7 pm7 cd7 ct7 : Value} {f_gap_of : Addr}
    {od8 an8 : Option Addr} {sl8 : Array (Option Value)} {oc8 kV8 dc8 pm8 cd8 ct8 : Value} {f_Clock_init : Addr}
    {od9 an9 : Option Addr} {sl9 : Array (Option Value)} {oc9 kV9 dc9 pm9 cd9 ct9 : Value} {f_Clock_pass_to : Addr}
    {od10 an10 : Option Addr} {sl10 : Array (Option Value)} {oc10 kV10 dc10 pm10 cd10 ct10 : Value} {f_Sender_init : Addr}
    {od11 an11 : Option Addr} {sl11 : Array (Option Value)} {oc11 kV11 dc11 pm11 cd11 ct11 : Value} {f_Sender_due : Addr}
    {od12 an12 : Option Addr} {sl12 : Array (Option Value)} {oc12 kV12 dc12 pm12 cd12 ct12 : Value} {f_Sender_end : Addr}
    {od13 an13 : Option Addr} {sl13 : Array (Option Value)} {oc13 kV13 dc13 pm13 cd13 ct13 : Value} {f_Sender_begin : Addr}
    {od14 an14 : Option Addr} {sl14 : Array (Option Value)} {oc14 kV14 dc14 pm14 cd14 ct14 : Value} {f_Sender_go_on : Addr}
    {od15 an15 : Option Addr} {sl15 : Array (Option Value)} {oc15 kV15 dc15 pm15 cd15 ct15 : Value} {f_Sender_send_next : Addr}
    {od16 an16 : Option Addr} {sl16 : Array (Option Value)} {oc16 kV16 dc16 pm16 cd16 ct16 : Value} {f_Sender_get : Addr}
    {od17 an17 : Option Addr} {sl17 : Array (Option Value)} {oc17 kV17 dc17 pm17 cd17 ct17 : Value} {f__law_draws : Addr}
    {od18 an18 : Option Addr} {sl18 : Array (Option Value)} {oc18 kV18 dc18 pm18 cd18 ct18 : Value} {f__law_draw : Addr}
    {od19 an19 : Option Addr} {sl19 : Array (Option Value)} {oc19 kV19 dc19 pm19 cd19 ct19 : Value} {f__law_same : Addr}
    {od20 an20 : Option Addr} {sl20 : Array (Option Value)} {oc20 kV20 dc20 pm20 cd20 ct20 : Value} {f__law_new_sender : Addr}
    {od21 an21 : Option Addr} {sl21 : Array (Option Value)} {oc21 kV21 dc21 pm21 cd21 ct21 : Value} {f__law_sender_next : Addr}
    {od22 an22 : Option Addr} {sl22 : Array (Option Value)} {oc22 kV22 dc22 pm22 cd22 ct22 : Value} {f__law_sender_on : Addr}
    {od23 an23 : Option Addr} {sl23 : Array (Option Value)} {oc23 kV23 dc23 pm23 cd23 ct23 : Value} {f__law_sender_begins : Addr}
    {od24 an24 : Option Addr} {sl24 : Array (Option Value)} {oc24 kV24 dc24 pm24 cd24 ct24 : Value} {f__law_sender_gets : Addr}
    {od25 an25 : Option Addr} {sl25 : Array (Option Value)} {oc25 kV25 dc25 pm25 cd25 ct25 : Value} {f__law_called : Addr}
    {od26 an26 : Option Addr} {sl26 : Array (Option Value)} {oc26 kV26 dc26 pm26 cd26 ct26 : Value} {f__law_made : Addr}
    {od27 an27 : Option Addr} {sl27 : Array (Option Value)} {oc27 kV27 dc27 pm27 cd27 ct27 : Value} {f__law_flow : Addr}
    {od28 an28 : Option Addr} {sl28 : Array (Option Value)} {oc28 kV28 dc28 pm28 cd28 ct28 : Value} {f_law : Addr}
    {t_LATE : Tok}
    {t_LONGEST_GAP : Tok}
    {t_MOST : Tok}
    {B : Addr}
    {X_DeedWrong : Addr}
    {X_Wrong : Addr}
    {nm_DeedWrong qn_DeedWrong : Str} {N_DeedWrong : Addr} {bs_DeedWrong bm_DeedWrong sub_DeedWrong : List Value} {sn_DeedWrong : List Str} {ab_DeedWrong : Bool} {col_DeedWrong : Option Bool} {dd_DeedWrong : Option Addr} {k0_DeedWrong k1_DeedWrong k2_DeedWrong k3_DeedWrong k5_DeedWrong : Option Value}
    {i_DeedWrong cda_DeedWrong cc_DeedWrong : Addr} {oc_DeedWrong kV_DeedWrong dc_DeedWrong pm_DeedWrong ct_DeedWrong ccl_DeedWrong cl_DeedWrong : Value} {od_DeedWrong an_DeedWrong cdd_DeedWrong cld_DeedWrong : Option Addr} {osl_DeedWrong ccs_DeedWrong csl_DeedWrong : Array (Option Value)} {vs_DeedWrong : Array Value} {file_DeedWrong : Str} {tf_DeedWrong : Tok} {cdD_DeedWrong : ClassData}
    {nm_Wrong qn_Wrong : Str} {N_Wrong : Addr} {bs_Wrong bm_Wrong sub_Wrong : List Value} {sn_Wrong : List Str} {ab_Wrong : Bool} {col_Wrong : Option Bool} {dd_Wrong : Option Addr} {k0_Wrong k1_Wrong k2_Wrong k3_Wrong k5_Wrong : Option Value}
    {i_Wrong cda_Wrong cc_Wrong : Addr} {oc_Wrong kV_Wrong dc_Wrong pm_Wrong ct_Wrong ccl_Wrong cl_Wrong : Value} {od_Wrong an_Wrong cdd_Wrong cld_Wrong : Option Addr} {osl_Wrong ccs_Wrong csl_Wrong : Array (Option Value)} {vs_Wrong : Array Value} {file_Wrong : Str} {tf_Wrong : Tok} {cdD_Wrong : ClassData}
    {TD_CarError : Addr} {td_o : Value} {td_d : Option Addr} {td_v : Value} {td_n : Nat} {td_s : Array (Option Value)}
    {i_CarError cda_CarError cc_CarError : Addr} {oc_CarError kV_CarError dc_CarError pm_CarError ct_CarError ccl_CarError cl_CarError : Value} {od_CarError an_CarError cdd_CarError cld_CarError : Option Addr} {osl_CarError ccs_CarError csl_CarError : Array (Option Value)} {vs_CarError : Array Value} {file_CarError : Str} {tf_CarError : Tok} {cdD_CarError : ClassData}
    (g_Clock : PySem.W.nsIn K mainGlobals "Clock" = some (some (.ref C_Clock)))
    (g_Sender : PySem.W.nsIn K mainGlobals "Sender" = some (some (.ref C_Sender)))
    (a1 : PySem.W.nsIn K mainGlobals "is_number" = some (some (.ref f_is_number)))
    (l1 : K.lookup f_is_number = some ⟨oc1, od1, .func (PySem.W.fnOf "is_number" "is_number" (defArgs st_is_number) (defBody st_is_number) (defScope st_is_number) .none kV1 dc1 pm1 an1 cd1 ct1), sl1⟩)
    (c1 : PySem.W.codeIn K cd1 "is_number" = true)
    (k1 : PySem.W.keepIn K (.ref f_is_number) = true)
    (a2 : PySem.W.nsIn K mainGlobals "is_octets" = some (some (.ref f_is_octets)))
    (l2 : K.lookup f_is_octets = some ⟨oc2, od2, .func (PySem.W.fnOf "is_octets" "is_octets" (defArgs st_is_octets) (defBody st_is_octets) (defScope st_is_octets) .none kV2 dc2 pm2 an2 cd2 ct2), sl2⟩)
    (c2 : PySem.W.codeIn K cd2 "is_octets" = true)
    (k2 : PySem.W.keepIn K (.ref f_is_octets) = true)
    (a3 : PySem.W.nsIn K mainGlobals "single" = some (some (.ref f_single)))
    (l3 : K.lookup f_single = some ⟨oc3, od3, .func (PySem.W.fnOf "single" "single" (defArgs st_single) (defBody st_single) (defScope st_single) .none kV3 dc3 pm3 an3 cd3 ct3), sl3⟩)
    (c3 : PySem.W.codeIn K cd3 "single" = true)
    (k3 : PySem.W.keepIn K (.ref f_single) = true)
    (a4 : PySem.W.nsIn K mainGlobals "first" = some (some (.ref f_first)))
    (l4 : K.lookup f_first = some ⟨oc4, od4, .func (PySem.W.fnOf "first" "first" (defArgs st_first) (defBody st_first) (defScope st_first) .none kV4 dc4 pm4 an4 cd4 ct4), sl4⟩)
    (c4 : PySem.W.codeIn K cd4 "first" = true)
    (k4 : PySem.W.keepIn K (.ref f_first) = true)
    (a5 : PySem.W.nsIn K mainGlobals "next_part" = some (some (.ref f_next_part)))
    (l5 : K.lookup f_next_part = some ⟨oc5, od5, .func (PySem.W.fnOf "next_part" "next_part" (defArgs st_next_part) (defBody st_next_part) (defScope st_next_part) .none kV5 dc5 pm5 an5 cd5 ct5), sl5⟩)
    (c5 : PySem.W.codeIn K cd5 "next_part" = true)
    (k5 : PySem.W.keepIn K (.ref f_next_part) = true)
    (a6 : PySem.W.nsIn K mainGlobals "told_by" = some (some (.ref f_told_by)))
    (l6 : K.lookup f_told_by = some ⟨oc6, od6, .func (PySem.W.fnOf "told_by" "told_by" (defArgs st_told_by) (defBody st_told_by) (defScope st_told_by) .none kV6 dc6 pm6 an6 cd6 ct6), sl6⟩)
    (c6 : PySem.W.codeIn K cd6 "told_by" = true)
    (k6 : PySem.W.keepIn K (.ref f_told_by) = true)
    (a7 : PySem.W.nsIn K mainGlobals "gap_of" = some (some (.ref f_gap_of)))
    (l7 : K.lookup f_gap_of = some ⟨oc7, od7, .func (PySem.W.fnOf "gap_of" "gap_of" (defArgs st_gap_of) (defBody st_gap_of) (defScope st_gap_of) .none kV7 dc7 pm7 an7 cd7 ct7), sl7⟩)
    (c7 : PySem.W.codeIn K cd7 "gap_of" = true)
    (k7 : PySem.W.keepIn K (.ref f_gap_of) = true)
    (a8 : PySem.W.findIn K (.ref C_Clock) "__init__" = some (some (.ref f_Clock_init)))
    (l8 : K.lookup f_Clock_init = some ⟨oc8, od8, .func (PySem.W.fnOf "__init__" "Clock.__init__" (defArgs st_Clock_init) (defBody st_Clock_init) (defScope st_Clock_init) .none kV8 dc8 pm8 an8 cd8 ct8), sl8⟩)
    (c8 : PySem.W.codeIn K cd8 "Clock.__init__" = true)
    (k8 : PySem.W.keepIn K (.ref f_Clock_init) = true)
    (i8 : PySem.W.isFn K (.ref f_Clock_init) = true)
    (a9 : PySem.W.findIn K (.ref C_Clock) "pass_to" = some (some (.ref f_Clock_pass_to)))
    (l9 : K.lookup f_Clock_pass_to = some ⟨oc9, od9, .func (PySem.W.fnOf "pass_to" "Clock.pass_to" (defArgs st_Clock_pass_to) (defBody st_Clock_pass_to) (defScope st_Clock_pass_to) .none kV9 dc9 pm9 an9 cd9 ct9), sl9⟩)
    (c9 : PySem.W.codeIn K cd9 "Clock.pass_to" = true)
    (k9 : PySem.W.keepIn K (.ref f_Clock_pass_to) = true)
    (i9 : PySem.W.isFn K (.ref f_Clock_pass_to) = true)
    (a10 : PySem.W.findIn K (.ref C_Sender) "__init__" = some (some (.ref f_Sender_init)))
    (l10 : K.lookup f_Sender_init = some ⟨oc10, od10, .func (PySem.W.fnOf "__init__" "Sender.__init__" (defArgs st_Sender_init) (defBody st_Sender_init) (defScope st_Sender_init) .none kV10 dc10 pm10 an10 cd10 ct10), sl10⟩)
    (c10 : PySem.W.codeIn K cd10 "Sender.__init__" = true)
    (k10 : PySem.W.keepIn K (.ref f_Sender_init) = true)
    (i10 : PySem.W.isFn K (.ref f_Sender_init) = true)
    (a11 : PySem.W.findIn K (.ref C_Sender) "due" = some (some (.ref f_Sender_due)))
    (l11 : K.lookup f_Sender_due = some ⟨oc11, od11, .func (PySem.W.fnOf "due" "Sender.due" (defArgs st_Sender_due) (defBody st_Sender_due) (defScope st_Sender_due) .none kV11 dc11 pm11 an11 cd11 ct11), sl11⟩)
    (c11 : PySem.W.codeIn K cd11 "Sender.due" = true)
    (k11 : PySem.W.keepIn K (.ref f_Sender_due) = true)
    (i11 : PySem.W.isFn K (.ref f_Sender_due) = true)
    (a12 : PySem.W.findIn K (.ref C_Sender) "end" = some (some (.ref f_Sender_end)))
    (l12 : K.lookup f_Sender_end = some ⟨oc12, od12, .func (PySem.W.fnOf "end" "Sender.end" (defArgs st_Sender_end) (defBody st_Sender_end) (defScope st_Sender_end) .none kV12 dc12 pm12 an12 cd12 ct12), sl12⟩)
    (c12 : PySem.W.codeIn K cd12 "Sender.end" = true)
    (k12 : PySem.W.keepIn K (.ref f_Sender_end) = true)
    (i12 : PySem.W.isFn K (.ref f_Sender_end) = true)
    (a13 : PySem.W.findIn K (.ref C_Sender) "begin" = some (some (.ref f_Sender_begin)))
    (l13 : K.lookup f_Sender_begin = some ⟨oc13, od13, .func (PySem.W.fnOf "begin" "Sender.begin" (defArgs st_Sender_begin) (defBody st_Sender_begin) (defScope st_Sender_begin) .none kV13 dc13 pm13 an13 cd13 ct13), sl13⟩)
    (c13 : PySem.W.codeIn K cd13 "Sender.begin" = true)
    (k13 : PySem.W.keepIn K (.ref f_Sender_begin) = true)
    (i13 : PySem.W.isFn K (.ref f_Sender_begin) = true)
    (a14 : PySem.W.findIn K (.ref C_Sender) "go_on" = some (some (.ref f_Sender_go_on)))
    (l14 : K.lookup f_Sender_go_on = some ⟨oc14, od14, .func (PySem.W.fnOf "go_on" "Sender.go_on" (defArgs st_Sender_go_on) (defBody st_Sender_go_on) (defScope st_Sender_go_on) .none kV14 dc14 pm14 an14 cd14 ct14), sl14⟩)
    (c14 : PySem.W.codeIn K cd14 "Sender.go_on" = true)
    (k14 : PySem.W.keepIn K (.ref f_Sender_go_on) = true)
    (i14 : PySem.W.isFn K (.ref f_Sender_go_on) = true)
    (a15 : PySem.W.findIn K (.ref C_Sender) "send_next" = some (some (.ref f_Sender_send_next)))
    (l15 : K.lookup f_Sender_send_next = some ⟨oc15, od15, .func (PySem.W.fnOf "send_next" "Sender.send_next" (defArgs st_Sender_send_next) (defBody st_Sender_send_next) (defScope st_Sender_send_next) .none kV15 dc15 pm15 an15 cd15 ct15), sl15⟩)
    (c15 : PySem.W.codeIn K cd15 "Sender.send_next" = true)
    (k15 : PySem.W.keepIn K (.ref f_Sender_send_next) = true)
    (i15 : PySem.W.isFn K (.ref f_Sender_send_next) = true)
    (a16 : PySem.W.findIn K (.ref C_Sender) "get" = some (some (.ref f_Sender_get)))
    (l16 : K.lookup f_Sender_get = some ⟨oc16, od16, .func (PySem.W.fnOf "get" "Sender.get" (defArgs st_Sender_get) (defBody st_Sender_get) (defScope st_Sender_get) .none kV16 dc16 pm16 an16 cd16 ct16), sl16⟩)
    (c16 : PySem.W.codeIn K cd16 "Sender.get" = true)
    (k16 : PySem.W.keepIn K (.ref f_Sender_get) = true)
    (i16 : PySem.W.isFn K (.ref f_Sender_get) = true)
    (a17 : PySem.W.nsIn K mainGlobals "_law_draws" = some (some (.ref f__law_draws)))
    (l17 : K.lookup f__law_draws = some ⟨oc17, od17, .func (PySem.W.fnOf "_law_draws" "_law_draws" (defArgs st__law_draws) (defBody st__law_draws) (defScope st__law_draws) .none kV17 dc17 pm17 an17 cd17 ct17), sl17⟩)
    (c17 : PySem.W.codeIn K cd17 "_law_draws" = true)
    (k17 : PySem.W.keepIn K (.ref f__law_draws) = true)
    (a18 : PySem.W.nsIn K mainGlobals "_law_draw" = some (some (.ref f__law_draw)))
    (l18 : K.lookup f__law_draw = some ⟨oc18, od18, .func (PySem.W.fnOf "_law_draw" "_law_draw" (defArgs st__law_draw) (defBody st__law_draw) (defScope st__law_draw) .none kV18 dc18 pm18 an18 cd18 ct18), sl18⟩)
    (c18 : PySem.W.codeIn K cd18 "_law_draw" = true)
    (k18 : PySem.W.keepIn K (.ref f__law_draw) = true)
    (a19 : PySem.W.nsIn K mainGlobals "_law_same" = some (some (.ref f__law_same)))
    (l19 : K.lookup f__law_same = some ⟨oc19, od19, .func (PySem.W.fnOf "_law_same" "_law_same" (defArgs st__law_same) (defBody st__law_same) (defScope st__law_same) .none kV19 dc19 pm19 an19 cd19 ct19), sl19⟩)
    (c19 : PySem.W.codeIn K cd19 "_law_same" = true)
    (k19 : PySem.W.keepIn K (.ref f__law_same) = true)
    (a20 : PySem.W.nsIn K mainGlobals "_law_new_sender" = some (some (.ref f__law_new_sender)))
    (l20 : K.lookup f__law_new_sender = some ⟨oc20, od20, .func (PySem.W.fnOf "_law_new_sender" "_law_new_sender" (defArgs st__law_new_sender) (defBody st__law_new_sender) (defScope st__law_new_sender) .none kV20 dc20 pm20 an20 cd20 ct20), sl20⟩)
    (c20 : PySem.W.codeIn K cd20 "_law_new_sender" = true)
    (k20 : PySem.W.keepIn K (.ref f__law_new_sender) = true)
    (a21 : PySem.W.nsIn K mainGlobals "_law_sender_next" = some (some (.ref f__law_sender_next)))
    (l21 : K.lookup f__law_sender_next = some ⟨oc21, od21, .func (PySem.W.fnOf "_law_sender_next" "_law_sender_next" (defArgs st__law_sender_next) (defBody st__law_sender_next) (defScope st__law_sender_next) .none kV21 dc21 pm21 an21 cd21 ct21), sl21⟩)
    (c21 : PySem.W.codeIn K cd21 "_law_sender_next" = true)
    (k21 : PySem.W.keepIn K (.ref f__law_sender_next) = true)
    (a22 : PySem.W.nsIn K mainGlobals "_law_sender_on" = some (some (.ref f__law_sender_on)))
    (l22 : K.lookup f__law_sender_on = some ⟨oc22, od22, .func (PySem.W.fnOf "_law_sender_on" "_law_sender_on" (defArgs st__law_sender_on) (defBody st__law_sender_on) (defScope st__law_sender_on) .none kV22 dc22 pm22 an22 cd22 ct22), sl22⟩)
    (c22 : PySem.W.codeIn K cd22 "_law_sender_on" = true)
    (k22 : PySem.W.keepIn K (.ref f__law_sender_on) = true)
    (a23 : PySem.W.nsIn K mainGlobals "_law_sender_begins" = some (some (.ref f__law_sender_begins)))
    (l23 : K.lookup f__law_sender_begins = some ⟨oc23, od23, .func (PySem.W.fnOf "_law_sender_begins" "_law_sender_begins" (defArgs st__law_sender_begins) (defBody st__law_sender_begins) (defScope st__law_sender_begins) .none kV23 dc23 pm23 an23 cd23 ct23), sl23⟩)
    (c23 : PySem.W.codeIn K cd23 "_law_sender_begins" = true)
    (k23 : PySem.W.keepIn K (.ref f__law_sender_begins) = true)
    (a24 : PySem.W.nsIn K mainGlobals "_law_sender_gets" = some (some (.ref f__law_sender_gets)))
    (l24 : K.lookup f__law_sender_gets = some ⟨oc24, od24, .func (PySem.W.fnOf "_law_sender_gets" "_law_sender_gets" (defArgs st__law_sender_gets) (defBody st__law_sender_gets) (defScope st__law_sender_gets) .none kV24 dc24 pm24 an24 cd24 ct24), sl24⟩)
    (c24 : PySem.W.codeIn K cd24 "_law_sender_gets" = true)
    (k24 : PySem.W.keepIn K (.ref f__law_sender_gets) = true)
    (a25 : PySem.W.nsIn K mainGlobals "_law_called" = some (some (.ref f__law_called)))
    (l25 : K.lookup f__law_called = some ⟨oc25, od25, .func (PySem.W.fnOf "_law_called" "_law_called" (defArgs st__law_called) (defBody st__law_called) (defScope st__law_called) .none kV25 dc25 pm25 an25 cd25 ct25), sl25⟩)
    (c25 : PySem.W.codeIn K cd25 "_law_called" = true)
    (k25 : PySem.W.keepIn K (.ref f__law_called) = true)
    (a26 : PySem.W.nsIn K mainGlobals "_law_made" = some (some (.ref f__law_made)))
    (l26 : K.lookup f__law_made = some ⟨oc26, od26, .func (PySem.W.fnOf "_law_made" "_law_made" (defArgs st__law_made) (defBody st__law_made) (defScope st__law_made) .none kV26 dc26 pm26 an26 cd26 ct26), sl26⟩)
    (c26 : PySem.W.codeIn K cd26 "_law_made" = true)
    (k26 : PySem.W.keepIn K (.ref f__law_made) = true)
    (a27 : PySem.W.nsIn K mainGlobals "_law_flow" = some (some (.ref f__law_flow)))
    (l27 : K.lookup f__law_flow = some ⟨oc27, od27, .func (PySem.W.fnOf "_law_flow" "_law_flow" (defArgs st__law_flow) (defBody st__law_flow) (defScope st__law_flow) .none kV27 dc27 pm27 an27 cd27 ct27), sl27⟩)
    (c27 : PySem.W.codeIn K cd27 "_law_flow" = true)
    (k27 : PySem.W.keepIn K (.ref f__law_flow) = true)
    (a28 : PySem.W.nsIn K mainGlobals "law" = some (some (.ref f_law)))
    (l28 : K.lookup f_law = some ⟨oc28, od28, .func (PySem.W.fnOf "law" "law" (defArgs st_law) (defBody st_law) (defScope st_law) .none kV28 dc28 pm28 an28 cd28 ct28), sl28⟩)
    (c28 : PySem.W.codeIn K cd28 "law" = true)
    (k28 : PySem.W.keepIn K (.ref f_law) = true)
    (pg_Clock : PySem.W.plainGet K C_Clock Str.empty = true)
    (hd_Clock : PySem.W.hasDictIn K C_Clock = true)
    (po_Clock : PySem.W.plainOver K C_Clock = true)
    (sa_Clock : PySem.W.findIn K (.ref C_Clock) "__setattr__" = some (some (.builtin "object.__setattr__")))
    (mk_Clock : PySem.W.makesIn K C_Clock = true)
    (kc_Clock : PySem.W.keepIn K (.ref C_Clock) = true)
    (no_Clock_now : PySem.W.findIn K (.ref C_Clock) "now" = some none)
    (pg_Sender : PySem.W.plainGet K C_Sender Str.empty = true)
    (hd_Sender : PySem.W.hasDictIn K C_Sender = true)
    (po_Sender : PySem.W.plainOver K C_Sender = true)
    (sa_Sender : PySem.W.findIn K (.ref C_Sender) "__setattr__" = some (some (.builtin "object.__setattr__")))
    (mk_Sender : PySem.W.makesIn K C_Sender = true)
    (kc_Sender : PySem.W.keepIn K (.ref C_Sender) = true)
    (no_Sender_data : PySem.W.findIn K (.ref C_Sender) "data" = some none)
    (no_Sender_waits : PySem.W.findIn K (.ref C_Sender) "waits" = some none)
    (no_Sender_state : PySem.W.findIn K (.ref C_Sender) "state" = some none)
    (no_Sender_clock : PySem.W.findIn K (.ref C_Sender) "clock" = some none)
    (no_Sender_at : PySem.W.findIn K (.ref C_Sender) "at" = some none)
    (no_Sender_number : PySem.W.findIn K (.ref C_Sender) "number" = some none)
    (no_Sender_left : PySem.W.findIn K (.ref C_Sender) "left" = some none)
    (no_Sender_gap : PySem.W.findIn K (.ref C_Sender) "gap" = some none)
    (no_Sender_bell : PySem.W.findIn K (.ref C_Sender) "bell" = some none)
    (z_all : PySem.W.nsIn K mainGlobals "all" = some none)
    (z_bool : PySem.W.nsIn K mainGlobals "bool" = some none)
    (z_dict : PySem.W.nsIn K mainGlobals "dict" = some none)
    (z_int : PySem.W.nsIn K mainGlobals "int" = some none)
    (z_isinstance : PySem.W.nsIn K mainGlobals "isinstance" = some none)
    (z_len : PySem.W.nsIn K mainGlobals "len" = some none)
    (z_list : PySem.W.nsIn K mainGlobals "list" = some none)
    (z_min : PySem.W.nsIn K mainGlobals "min" = some none)
    (z_range : PySem.W.nsIn K mainGlobals "range" = some none)
    (z_str : PySem.W.nsIn K mainGlobals "str" = some none)
    (z_tuple : PySem.W.nsIn K mainGlobals "tuple" = some none)
    (q_LATE : PySem.W.nsIn K mainGlobals "LATE" = some (some (.int 1000 t_LATE)))
    (q_LONGEST_GAP : PySem.W.nsIn K mainGlobals "LONGEST_GAP" = some (some (.int 127 t_LONGEST_GAP)))
    (q_MOST : PySem.W.nsIn K mainGlobals "MOST" = some (some (.int 4095 t_MOST)))
    (zsuper : PySem.W.nsIn K mainGlobals "super" = some none)
    (op : PySem.W.nsIn K cStatics "thirdparty.any" = some none)
    (gx_DeedWrong : PySem.W.nsIn K mainGlobals "DeedWrong" = some (some (.ref X_DeedWrong)))
    (gx_Wrong : PySem.W.nsIn K mainGlobals "Wrong" = some (some (.ref X_Wrong)))
    (xo_DeedWrong : K.lookup X_DeedWrong = some (excClassObj nm_DeedWrong qn_DeedWrong X_DeedWrong N_DeedWrong bs_DeedWrong bm_DeedWrong true sn_DeedWrong sub_DeedWrong ab_DeedWrong col_DeedWrong dd_DeedWrong k0_DeedWrong k1_DeedWrong k2_DeedWrong k3_DeedWrong k5_DeedWrong "ValueError.__new__"))
    (xr_DeedWrong : PySem.HandSPX.refsVE bm_DeedWrong = true)
    (xs_DeedWrong : PySem.W.findIn K (.ref X_DeedWrong) "__setattr__" = some (some (.builtin "object.__setattr__")))
    (xb_DeedWrong : PySem.W.subIn K (.ref X_DeedWrong) (.type "BaseException") = some true)
    (xt_DeedWrong : PySem.W.typeIn K (.ref X_DeedWrong) = some (.type "type"))
    (xkc_DeedWrong : PySem.W.keepIn K (.ref X_DeedWrong) = true)
    (xm_DeedWrong : PySem.W.mroIn K X_DeedWrong (.ref X_DeedWrong) = some true)
    (xi_DeedWrong : PySem.W.findIn K (.ref X_DeedWrong) "__init__" = some (some (.ref i_DeedWrong)))
    (xl_DeedWrong : K.lookup i_DeedWrong = some ⟨oc_DeedWrong, od_DeedWrong, .func (PySem.W.ksFn "__init__" "DeedWrong.__init__" (defArgs st_DeedWrong_init) (defBody st_DeedWrong_init) (defScope st_DeedWrong_init) .none kV_DeedWrong dc_DeedWrong pm_DeedWrong an_DeedWrong (.ref cda_DeedWrong) ct_DeedWrong cc_DeedWrong), osl_DeedWrong⟩)
    (xc_DeedWrong : PySem.W.codeIn K (.ref cda_DeedWrong) "DeedWrong.__init__" = true)
    (xd_DeedWrong : K.lookup cda_DeedWrong = some ⟨ccl_DeedWrong, cdd_DeedWrong, .fields vs_DeedWrong, ccs_DeedWrong⟩)
    (xv_DeedWrong : vs_DeedWrong[2]? = some (.str file_DeedWrong tf_DeedWrong))
    (xf_DeedWrong : ((PySem.Challenge.rw_axlewire_k47_whole_senders_of_parts.prog.main.file : Str) == file_DeedWrong) = true)
    (xcc_DeedWrong : K.lookup cc_DeedWrong = some ⟨cl_DeedWrong, cld_DeedWrong, .cell (some (.ref X_DeedWrong)), csl_DeedWrong⟩)
    (xcl_DeedWrong : PySem.W.clsIn K X_DeedWrong = some cdD_DeedWrong)
    (xk_DeedWrong : PySem.W.keepIn K (.ref i_DeedWrong) = true)
    (xo_Wrong : K.lookup X_Wrong = some (excClassObj nm_Wrong qn_Wrong X_Wrong N_Wrong bs_Wrong bm_Wrong true sn_Wrong sub_Wrong ab_Wrong col_Wrong dd_Wrong k0_Wrong k1_Wrong k2_Wrong k3_Wrong k5_Wrong "ValueError.__new__"))
    (xr_Wrong : PySem.HandSPX.refsVE bm_Wrong = true)
    (xs_Wrong : PySem.W.findIn K (.ref X_Wrong) "__setattr__" = some (some (.builtin "object.__setattr__")))
    (xb_Wrong : PySem.W.subIn K (.ref X_Wrong) (.type "BaseException") = some true)
    (xt_Wrong : PySem.W.typeIn K (.ref X_Wrong) = some (.type "type"))
    (xkc_Wrong : PySem.W.keepIn K (.ref X_Wrong) = true)
    (xm_Wrong : PySem.W.mroIn K X_Wrong (.ref X_Wrong) = some true)
    (xi_Wrong : PySem.W.findIn K (.ref X_Wrong) "__init__" = some (some (.ref i_Wrong)))
    (xl_Wrong : K.lookup i_Wrong = some ⟨oc_Wrong, od_Wrong, .func (PySem.W.ksFn "__init__" "Wrong.__init__" (defArgs st_Wrong_init) (defBody st_Wrong_init) (defScope st_Wrong_init) .none kV_Wrong dc_Wrong pm_Wrong an_Wrong (.ref cda_Wrong) ct_Wrong cc_Wrong), osl_Wrong⟩)
    (xc_Wrong : PySem.W.codeIn K (.ref cda_Wrong) "Wrong.__init__" = true)
    (xd_Wrong : K.lookup cda_Wrong = some ⟨ccl_Wrong, cdd_Wrong, .fields vs_Wrong, ccs_Wrong⟩)
    (xv_Wrong : vs_Wrong[2]? = some (.str file_Wrong tf_Wrong))
    (xf_Wrong : ((PySem.Challenge.rw_axlewire_k47_whole_senders_of_parts.prog.main.file : Str) == file_Wrong) = true)
    (xcc_Wrong : K.lookup cc_Wrong = some ⟨cl_Wrong, cld_Wrong, .cell (some (.ref X_Wrong)), csl_Wrong⟩)
    (xcl_Wrong : PySem.W.clsIn K X_Wrong = some cdD_Wrong)
    (xk_Wrong : PySem.W.keepIn K (.ref i_Wrong) = true)
    (xfB_DeedWrong : PySem.W.ks_superIn K X_DeedWrong X_DeedWrong "__init__" = some (some (.ref i_CarError)))
    (xl_CarError : K.lookup i_CarError = some ⟨oc_CarError, od_CarError, .func (PySem.W.ksFn "__init__" "CarError.__init__" (defArgs st_CarError_init) (defBody st_CarError_init) (defScope st_CarError_init) (.ref TD_CarError) kV_CarError dc_CarError pm_CarError an_CarError (.ref cda_CarError) ct_CarError cc_CarError), osl_CarError⟩)
    (xc_CarError : PySem.W.codeIn K (.ref cda_CarError) "CarError.__init__" = true)
    (xd_CarError : K.lookup cda_CarError = some ⟨ccl_CarError, cdd_CarError, .fields vs_CarError, ccs_CarError⟩)
    (xv_CarError : vs_CarError[2]? = some (.str file_CarError tf_CarError))
    (xf_CarError : ((PySem.Challenge.rw_axlewire_k47_whole_senders_of_parts.prog.main.file : Str) == file_CarError) = true)
    (xcc_CarError : K.lookup cc_CarError = some ⟨cl_CarError, cld_CarError, .cell (some (.ref B)), csl_CarError⟩)
    (xcl_CarError : PySem.W.clsIn K B = some cdD_CarError)
    (xk_CarError : PySem.W.keepIn K (.ref i_CarError) = true)
    (td : K.lookup TD_CarError = some ⟨td_o, td_d, .seq #[td_v] td_n, td_s⟩)
    (xmB_DeedWrong : PySem.W.mroIn K X_DeedWrong (.ref B) = some true)
    (xfV_DeedWrong : PySem.W.ks_superIn K X_DeedWrong B "__init__" = some (some (.builtin "ValueError.__init__")))
    (xV_DeedWrong : PySem.W.subIn K (.ref X_DeedWrong) (.type "ValueError") = some true)
    (xat_DeedWrong : PySem.W.findIn K (.ref X_DeedWrong) "at" = some none)
    (xnm_DeedWrong : PySem.W.findIn K (.ref X_DeedWrong) "name" = some none)
    (xti_DeedWrong : PySem.W.typeIn K (.ref i_DeedWrong) = some (.type "function"))
    (xga_DeedWrong : PySem.W.findIn K (.ref X_DeedWrong) "__getattribute__" = some (some (.builtin "BaseException.__getattribute__")))
    (xgg_DeedWrong : PySem.W.findIn K (.ref X_DeedWrong) "__getattr__" = some none)
    (xhd_DeedWrong : PySem.W.hasDictIn K X_DeedWrong = true)
    (xic_DeedWrong : PySem.W.isClsIn K X_DeedWrong = true)
    (xss_DeedWrong : PySem.W.subIn K (.ref X_DeedWrong) (.ref X_DeedWrong) = some true)
    (xfB_Wrong : PySem.W.ks_superIn K X_Wrong X_Wrong "__init__" = some (some (.ref i_CarError)))
    (xmB_Wrong : PySem.W.mroIn K X_Wrong (.ref B) = some true)
    (xfV_Wrong : PySem.W.ks_superIn K X_Wrong B "__init__" = some (some (.builtin "ValueError.__init__")))
    (xV_Wrong : PySem.W.subIn K (.ref X_Wrong) (.type "ValueError") = some true)
    (xat_Wrong : PySem.W.findIn K (.ref X_Wrong) "at" = some none)
    (xnm_Wrong : PySem.W.findIn K (.ref X_Wrong) "name" = some none)
    (xti_Wrong : PySem.W.typeIn K (.ref i_Wrong) = some (.type "function"))
    (xga_Wrong : PySem.W.findIn K (.ref X_Wrong) "__getattribute__" = some (some (.builtin "BaseException.__getattribute__")))
    (xgg_Wrong : PySem.W.findIn K (.ref X_Wrong) "__getattr__" = some none)
    (xhd_Wrong : PySem.W.hasDictIn K X_Wrong = true)
    (xic_Wrong : PySem.W.isClsIn K X_Wrong = true)
    (xss_Wrong : PySem.W.subIn K (.ref X_Wrong) (.ref X_Wrong) = some true)
    (tB : PySem.W.typeIn K (.ref i_CarError) = some (.type "function"))
    (fB : PySem.W.fnIn K i_CarError = true)
    : ∃ fd : FuncData, (∀ (s : Shared) (u : Value), BindsTo s fd ⟨[u], []⟩ [("script", u)]) ∧ ∀ base : Heap, K.In base → base.Ns mainGlobals mg → FnOk PySem.Challenge.rw_axlewire_k47_whole_senders_of_parts.prog w K mg base (L2.CX PySem.Challenge.rw_axlewire_k47_whole_senders_of_parts.prog w) 10 fa fd ["script"] (lowSp K spL) := by
  have e := hfa.symm.trans (PySem.W.mg_of X G a28)
  cases e
  have F_is_number := fun_mk (st := st_is_number) l1 c1 k1
  have b_is_number := F_is_number.binds (ps := ["thing", "low", "high"]) fun _ _ _ _ _ _ us hl => match us, hl with | [_, _, _], _ => rfl
  have F_is_octets := fun_mk (st := st_is_octets) l2 c2 k2
  have b_is_octets := F_is_octets.binds (ps := ["thing", "most"]) fun _ _ _ _ _ _ us hl => match us, hl with | [_, _], _ => rfl
  have F_single := fun_mk (st := st_single) l3 c3 k3
  have b_single := F_single.binds (ps := ["data"]) fun _ _ _ _ _ _ us hl => match us, hl with | [_], _ => rfl
  have F_first := fun_mk (st := st_first) l4 c4 k4
  have b_first := F_first.binds (ps := ["data"]) fun _ _ _ _ _ _ us hl => match us, hl with | [_], _ => rfl
  have F_next_part := fun_mk (st := st_next_part) l5 c5 k5
  have b_next_part := F_next_part.binds (ps := ["number", "data"]) fun _ _ _ _ _ _ us hl => match us, hl with | [_, _], _ => rfl
  have F_told_by := fun_mk (st := st_told_by) l6 c6 k6
  have b_told_by := F_told_by.binds (ps := ["octets"]) fun _ _ _ _ _ _ us hl => match us, hl with | [_], _ => rfl
  have F_gap_of := fun_mk (st := st_gap_of) l7 c7 k7
  have b_gap_of := F_gap_of.binds (ps := ["octet"]) fun _ _ _ _ _ _ us hl => match us, hl with | [_], _ => rfl
  have F_Clock_init := fun_mk (st := st_Clock_init) l8 c8 k8
  have b_Clock_init := F_Clock_init.binds (ps := ["self"]) fun _ _ _ _ _ _ us hl => match us, hl with | [_], _ => rfl
  have F_Clock_pass_to := fun_mk (st := st_Clock_pass_to) l9 c9 k9
  have b_Clock_pass_to := F_Clock_pass_to.binds (ps := ["self", "now"]) fun _ _ _ _ _ _ us hl => match us, hl with | [_, _], _ => rfl
  have F_Sender_init := fun_mk (st := st_Sender_init) l10 c10 k10
  have b_Sender_init := F_Sender_init.binds (ps := ["self", "data", "waits"]) fun _ _ _ _ _ _ us hl => match us, hl with | [_, _, _], _ => rfl
  have F_Sender_due := fun_mk (st := st_Sender_due) l11 c11 k11
  have b_Sender_due := F_Sender_due.binds (ps := ["self"]) fun _ _ _ _ _ _ us hl => match us, hl with | [_], _ => rfl
  have F_Sender_end := fun_mk (st := st_Sender_end) l12 c12 k12
  have b_Sender_end := F_Sender_end.binds (ps := ["self", "state"]) fun _ _ _ _ _ _ us hl => match us, hl with | [_, _], _ => rfl
  have F_Sender_begin := fun_mk (st := st_Sender_begin) l13 c13 k13
  have b_Sender_begin := F_Sender_begin.binds (ps := ["self", "now"]) fun _ _ _ _ _ _ us hl => match us, hl with | [_, _], _ => rfl
  have F_Sender_go_on := fun_mk (st := st_Sender_go_on) l14 c14 k14
  have b_Sender_go_on := F_Sender_go_on.binds (ps := ["self", "now"]) fun _ _ _ _ _ _ us hl => match us, hl with | [_, _], _ => rfl
  have F_Sender_send_next := fun_mk (st := st_Sender_send_next) l15 c15 k15
  have b_Sender_send_next := F_Sender_send_next.binds (ps := ["self", "now"]) fun _ _ _ _ _ _ us hl => match us, hl with | [_, _], _ => rfl
  have F_Sender_get := fun_mk (st := st_Sender_get) l16 c16 k16
  have b_Sender_get := F_Sender_get.binds (ps := ["self", "octets", "now"]) fun _ _ _ _ _ _ us hl => match us, hl with | [_, _, _], _ => rfl
  have F__law_draws := fun_mk (st := st__law_draws) l17 c17 k17
  have b__law_draws := F__law_draws.binds (ps := ["script"]) fun _ _ _ _ _ _ us hl => match us, hl with | [_], _ => rfl
  have F__law_draw := fun_mk (st := st__law_draw) l18 c18 k18
  have b__law_draw := F__law_draw.binds (ps := ["draws", "limit"]) fun _ _ _ _ _ _ us hl => match us, hl with | [_, _], _ => rfl
  have F__law_same := fun_mk (st := st__law_same) l19 c19 k19
  have b__law_same := F__law_same.binds (ps := ["x", "due"]) fun _ _ _ _ _ _ us hl => match us, hl with | [_, _], _ => rfl
  have F__law_new_sender := fun_mk (st := st__law_new_sender) l20 c20 k20
  have b__law_new_sender := F__law_new_sender.binds (ps := ["data", "waits"]) fun _ _ _ _ _ _ us hl => match us, hl with | [_, _], _ => rfl
  have F__law_sender_next := fun_mk (st := st__law_sender_next) l21 c21 k21
  have b__law_sender_next := F__law_sender_next.binds (ps := ["own", "now"]) fun _ _ _ _ _ _ us hl => match us, hl with | [_, _], _ => rfl
  have F__law_sender_on := fun_mk (st := st__law_sender_on) l22 c22 k22
  have b__law_sender_on := F__law_sender_on.binds (ps := ["own", "now"]) fun _ _ _ _ _ _ us hl => match us, hl with | [_, _], _ => rfl
  have F__law_sender_begins := fun_mk (st := st__law_sender_begins) l23 c23 k23
  have b__law_sender_begins := F__law_sender_begins.binds (ps := ["own", "now"]) fun _ _ _ _ _ _ us hl => match us, hl with | [_, _], _ => rfl
  have F__law_sender_gets := fun_mk (st := st__law_sender_gets) l24 c24 k24
  have b__law_sender_gets := F__law_sender_gets.binds (ps := ["own", "octets", "now"]) fun _ _ _ _ _ _ us hl => match us, hl with | [_, _, _], _ => rfl
  have F__law_called := fun_mk (st := st__law_called) l25 c25 k25
  have b__law_called := F__law_called.binds (ps := ["sender", "word", "thing", "now"]) fun _ _ _ _ _ _ us hl => match us, hl with | [_, _, _, _], _ => rfl
  have F__law_made := fun_mk (st := st__law_made) l26 c26 k26
  have b__law_made := F__law_made.binds (ps := ["data"]) fun _ _ _ _ _ _ us hl => match us, hl with | [_], _ => rfl
  have F__law_flow := fun_mk (st := st__law_flow) l27 c27 k27
  have b__law_flow := F__law_flow.binds (ps := ["draws"]) fun _ _ _ _ _ _ us hl => match us, hl with | [_], _ => rfl
  have F_law := fun_mk (st := st_law) l28 c28 k28
  have b_law := F_law.binds (ps := ["script"]) fun _ _ _ _ _ _ us hl => match us, hl with | [_], _ => rfl
  have S_DeedWrong : SupFn PySem.Challenge.rw_axlewire_k47_whole_senders_of_parts.prog K "__init__" "DeedWrong.__init__" st_DeedWrong_init i_DeedWrong X_DeedWrong _ := ⟨⟨_, _, .none, kV_DeedWrong, dc_DeedWrong, pm_DeedWrong, an_DeedWrong, cda_DeedWrong, ct_DeedWrong, _, cc_DeedWrong, _, _, _, _, _, _, _, _, _, rfl, xl_DeedWrong, xc_DeedWrong, xd_DeedWrong, xv_DeedWrong, xf_DeedWrong, xcc_DeedWrong⟩, ⟨_, xcl_DeedWrong⟩, op, by decide +kernel⟩
  have S_Wrong : SupFn PySem.Challenge.rw_axlewire_k47_whole_senders_of_parts.prog K "__init__" "Wrong.__init__" st_Wrong_init i_Wrong X_Wrong _ := ⟨⟨_, _, .none, kV_Wrong, dc_Wrong, pm_Wrong, an_Wrong, cda_Wrong, ct_Wrong, _, cc_Wrong, _, _, _, _, _, _, _, _, _, rfl, xl_Wrong, xc_Wrong, xd_Wrong, xv_Wrong, xf_Wrong, xcc_Wrong⟩, ⟨_, xcl_Wrong⟩, op, by decide +kernel⟩
  have S_CarError : SupFn PySem.Challenge.rw_axlewire_k47_whole_senders_of_parts.prog K "__init__" "CarError.__init__" st_CarError_init i_CarError B _ := ⟨⟨_, _, (.ref TD_CarError), kV_CarError, dc_CarError, pm_CarError, an_CarError, cda_CarError, ct_CarError, _, cc_CarError, _, _, _, _, _, _, _, _, _, rfl, xl_CarError, xc_CarError, xd_CarError, xv_CarError, xf_CarError, xcc_CarError⟩, ⟨_, xcl_CarError⟩, op, by decide +kernel⟩
  let A : Ad := ⟨B, X_DeedWrong, X_Wrong, C_Clock, C_Sender, f_is_number, f_is_octets, f_single, f_first, f_next_part, f_told_by, f_gap_of, f_Clock_init, f_Clock_pass_to, f_Sender_init, f_Sender_due, f_Sender_end, f_Sender_begin, f_Sender_go_on, f_Sender_send_next, f_Sender_get, f__law_draws, f__law_draw, f__law_same, f__law_new_sender, f__law_sender_next, f__law_sender_on, f__law_sender_begins, f__law_sender_gets, f__law_called, f__law_made, f__law_flow, fa⟩
  have T : Txt K mg A := {
      g_is_number := PySem.W.mg_of X G a1
      g_is_octets := PySem.W.mg_of X G a2
      g_single := PySem.W.mg_of X G a3
      g_first := PySem.W.mg_of X G a4
      g_next_part := PySem.W.mg_of X G a5
      g_told_by := PySem.W.mg_of X G a6
      g_gap_of := PySem.W.mg_of X G a7
      g__law_draws := PySem.W.mg_of X G a17
      g__law_draw := PySem.W.mg_of X G a18
      g__law_same := PySem.W.mg_of X G a19
      g__law_new_sender := PySem.W.mg_of X G a20
      g__law_sender_next := PySem.W.mg_of X G a21
      g__law_sender_on := PySem.W.mg_of X G a22
      g__law_sender_begins := PySem.W.mg_of X G a23
      g__law_sender_gets := PySem.W.mg_of X G a24
      g__law_called := PySem.W.mg_of X G a25
      g__law_made := PySem.W.mg_of X G a26
      g__law_flow := PySem.W.mg_of X G a27
      g_law := PySem.W.mg_of X G a28
      g_Clock := PySem.W.mg_of X G g_Clock
      k_Clock := ⟨⟨pg_Clock, hd_Clock, po_Clock, sa_Clock⟩, (by show (["now"] : List Str).Nodup; decide +kernel), (fun x hx => by
        rcases List.mem_cons.mp hx with rfl | hx
        · exact no_Clock_now
        cases hx), (by show (["now"] : List Str).length < 900; decide)⟩
      m_Clock := ⟨mk_Clock, a8, i8, kc_Clock⟩
      h_Clock_pass_to := ⟨a9, i9, k9⟩
      g_Sender := PySem.W.mg_of X G g_Sender
      k_Sender := ⟨⟨pg_Sender, hd_Sender, po_Sender, sa_Sender⟩, (by show (["data", "waits", "state", "clock", "at", "number", "left", "gap", "bell"] : List Str).Nodup; decide +kernel), (fun x hx => by
        rcases List.mem_cons.mp hx with rfl | hx
        · exact no_Sender_data
        rcases List.mem_cons.mp hx with rfl | hx
        · exact no_Sender_waits
        rcases List.mem_cons.mp hx with rfl | hx
        · exact no_Sender_state
        rcases List.mem_cons.mp hx with rfl | hx
        · exact no_Sender_clock
        rcases List.mem_cons.mp hx with rfl | hx
        · exact no_Sender_at
        rcases List.mem_cons.mp hx with rfl | hx
        · exact no_Sender_number
        rcases List.mem_cons.mp hx with rfl | hx
        · exact no_Sender_left
        rcases List.mem_cons.mp hx with rfl | hx
        · exact no_Sender_gap
        rcases List.mem_cons.mp hx with rfl | hx
        · exact no_Sender_bell
        cases hx), (by show (["data", "waits", "state", "clock", "at", "number", "left", "gap", "bell"] : List Str).length < 900; decide)⟩
      m_Sender := ⟨mk_Sender, a10, i10, kc_Sender⟩
      h_Sender_due := ⟨a11, i11, k11⟩
      h_Sender_end := ⟨a12, i12, k12⟩
      h_Sender_begin := ⟨a13, i13, k13⟩
      h_Sender_go_on := ⟨a14, i14, k14⟩
      h_Sender_send_next := ⟨a15, i15, k15⟩
      h_Sender_get := ⟨a16, i16, k16⟩
      g_DeedWrong := PySem.W.mg_of X G gx_DeedWrong
      M_DeedWrong := fun C b h => by
        unfold Ad.M_DeedWrong at h
        split at h
        · rename_i e
          cases h
          subst e
          exact exm_own xb_DeedWrong xic_DeedWrong xt_DeedWrong xss_DeedWrong
        · cases h
      xf_DeedWrong_at := fun C hC => by
        have e : C = X_DeedWrong := by simpa [Ad.xs_DeedWrong] using hC
        subst e
        exact ⟨⟨xga_DeedWrong, xgg_DeedWrong, xb_DeedWrong, xhd_DeedWrong⟩, xat_DeedWrong⟩
      g_Wrong := PySem.W.mg_of X G gx_Wrong
      M_Wrong := fun C b h => by
        unfold Ad.M_Wrong at h
        split at h
        · rename_i e
          cases h
          subst e
          exact exm_own xb_Wrong xic_Wrong xt_Wrong xss_Wrong
        · cases h
      xf_Wrong_at := fun C hC => by
        have e : C = X_Wrong := by simpa [Ad.xs_Wrong] using hC
        subst e
        exact ⟨⟨xga_Wrong, xgg_Wrong, xb_Wrong, xhd_Wrong⟩, xat_Wrong⟩
      z_all := PySem.W.mg_none_of X G z_all
      z_bool := PySem.W.mg_none_of X G z_bool
      z_dict := PySem.W.mg_none_of X G z_dict
      z_int := PySem.W.mg_none_of X G z_int
      z_isinstance := PySem.W.mg_none_of X G z_isinstance
      z_len := PySem.W.mg_none_of X G z_len
      z_list := PySem.W.mg_none_of X G z_list
      z_min := PySem.W.mg_none_of X G z_min
      z_range := PySem.W.mg_none_of X G z_range
      z_str := PySem.W.mg_none_of X G z_str
      z_tuple := PySem.W.mg_none_of X G z_tuple
      i_LATE := ⟨t_LATE, PySem.W.mg_of X G q_LATE⟩
      i_LONGEST_GAP := ⟨t_LONGEST_GAP, PySem.W.mg_of X G q_LONGEST_GAP⟩
      i_MOST := ⟨t_MOST, PySem.W.mg_of X G q_MOST⟩
    }
  refine ⟨PySem.W.fnOf "law" "law" (defArgs st_law) (defBody st_law) (defScope st_law) .none kV28 dc28 pm28 an28 cd28 ct28, fun s v => .of_eq rfl, fun base _ _ => ?_⟩
  have zs : mg "super" = none := PySem.W.mg_none_of X G zsuper
  have bCar : Binds K (PySem.W.ksFn "__init__" "CarError.__init__" (defArgs st_CarError_init) (defBody st_CarError_init) (defScope st_CarError_init) (.ref TD_CarError) kV_CarError dc_CarError pm_CarError an_CarError (.ref cda_CarError) ct_CarError cc_CarError) ["self", "at", "name"] [] := fun s us KX hl => by
    rw [List.append_nil] at hl ⊢
    exact match us, hl with | [_, _, _], _ => BindsTo.of_defaults (T := TD_CarError) rfl (KX _ _ td) rfl rfl rfl
  have GB := ok_car (w := w) (mg := mg) (base := base) S_CarError ss_CarError (by rfl) (fun _ => by rfl) (by rfl) (by rfl) zs
  have E_DeedWrong : ExcC K X_DeedWrong B := ⟨⟨⟨_, _, _, _, _, _, _, _, _, _, _, _, _, _, _, xo_DeedWrong, xr_DeedWrong⟩, xs_DeedWrong, xb_DeedWrong, xt_DeedWrong, xkc_DeedWrong⟩, xmB_DeedWrong, xfV_DeedWrong, xV_DeedWrong, xat_DeedWrong, xnm_DeedWrong⟩
  have X_DeedWrong' : XMk PySem.Challenge.rw_axlewire_k47_whole_senders_of_parts.prog w K mg base 2 X_DeedWrong B "DeedWrong" := ⟨E_DeedWrong.T, i_DeedWrong, _, xi_DeedWrong, xti_DeedWrong, ok_sub S_DeedWrong ss_DeedWrong (by rfl) (fun _ => by rfl) (by rfl) (by rfl) zs E_DeedWrong xm_DeedWrong xfB_DeedWrong tB fB GB bCar, Binds.all (fd := PySem.W.ksFn "__init__" "DeedWrong.__init__" (defArgs st_DeedWrong_init) (defBody st_DeedWrong_init) (defScope st_DeedWrong_init) .none kV_DeedWrong dc_DeedWrong pm_DeedWrong an_DeedWrong (.ref cda_DeedWrong) ct_DeedWrong cc_DeedWrong) fun us hl => match us, hl with | [_, _], _ => rfl⟩
  have E_Wrong : ExcC K X_Wrong B := ⟨⟨⟨_, _, _, _, _, _, _, _, _, _, _, _, _, _, _, xo_Wrong, xr_Wrong⟩, xs_Wrong, xb_Wrong, xt_Wrong, xkc_Wrong⟩, xmB_Wrong, xfV_Wrong, xV_Wrong, xat_Wrong, xnm_Wrong⟩
  have X_Wrong' : XMk PySem.Challenge.rw_axlewire_k47_whole_senders_of_parts.prog w K mg base 2 X_Wrong B "Wrong" := ⟨E_Wrong.T, i_Wrong, _, xi_Wrong, xti_Wrong, ok_sub S_Wrong ss_Wrong (by rfl) (fun _ => by rfl) (by rfl) (by rfl) zs E_Wrong xm_Wrong xfB_Wrong tB fB GB bCar, Binds.all (fd := PySem.W.ksFn "__init__" "Wrong.__init__" (defArgs st_Wrong_init) (defBody st_Wrong_init) (defScope st_Wrong_init) .none kV_Wrong dc_Wrong pm_Wrong an_Wrong (.ref cda_Wrong) ct_Wrong cc_Wrong) fun us hl => match us, hl with | [_, _], _ => rfl⟩
  have G_Sender_due := ok_Sender_due (P := row.prog) (w := w) (mg := mg) (base := base) (A := A) F_Sender_due b_Sender_due T
  have G_Clock_init := ok_Clock_init (P := row.prog) (w := w) (mg := mg) (base := base) (A := A) F_Clock_init b_Clock_init T
  have G_Sender_init := ok_Sender_init (P := row.prog) (w := w) (mg := mg) (base := base) (A := A) F_Sender_init b_Sender_init T G_Clock_init X_Wrong'
  have G_Clock_pass_to := ok_Clock_pass_to (P := row.prog) (w := w) (mg := mg) (base := base) (A := A) F_Clock_pass_to b_Clock_pass_to T X_DeedWrong'
  have G_Sender_end := ok_Sender_end (P := row.prog) (w := w) (mg := mg) (base := base) (A := A) F_Sender_end b_Sender_end T
  have G_first := ok_first (P := row.prog) (w := w) (mg := mg) (base := base) (A := A) F_first b_first T
  have G_single := ok_single (P := row.prog) (w := w) (mg := mg) (base := base) (A := A) F_single b_single T
  have G_Sender_begin := ok_Sender_begin (P := row.prog) (w := w) (mg := mg) (base := base) (A := A) F_Sender_begin b_Sender_begin T G_Clock_pass_to G_Sender_end G_first G_single X_DeedWrong'
  have G_next_part := ok_next_part (P := row.prog) (w := w) (mg := mg) (base := base) (A := A) F_next_part b_next_part T
  have G_Sender_send_next := ok_Sender_send_next (P := row.prog) (w := w) (mg := mg) (base := base) (A := A) F_Sender_send_next b_Sender_send_next T G_Sender_end G_next_part
  have G_Sender_go_on := ok_Sender_go_on (P := row.prog) (w := w) (mg := mg) (base := base) (A := A) F_Sender_go_on b_Sender_go_on T G_Clock_pass_to G_Sender_end G_Sender_send_next
  have G_gap_of := ok_gap_of (P := row.prog) (w := w) (mg := mg) (base := base) (A := A) F_gap_of b_gap_of T
  have G_is_number := ok_is_number (P := row.prog) (w := w) (mg := mg) (base := base) (A := A) F_is_number b_is_number T
  have G_is_octets := ok_is_octets (P := row.prog) (w := w) (mg := mg) (base := base) (A := A) F_is_octets b_is_octets T G_is_number
  have G_told_by := ok_told_by (P := row.prog) (w := w) (mg := mg) (base := base) (A := A) F_told_by b_told_by T G_is_octets
  have G_Sender_get := ok_Sender_get (P := row.prog) (w := w) (mg := mg) (base := base) (A := A) F_Sender_get b_Sender_get T G_Sender_end G_Sender_go_on G_gap_of G_told_by
  have G__law_called := ok__law_called (P := row.prog) (w := w) (mg := mg) (base := base) (A := A) F__law_called b__law_called T G_Sender_begin G_Sender_get G_Sender_go_on
  have G__law_draw := ok__law_draw (P := row.prog) (w := w) (mg := mg) (base := base) (A := A) F__law_draw b__law_draw T
  have G__law_draws := ok__law_draws (P := row.prog) (w := w) (mg := mg) (base := base) (A := A) F__law_draws b__law_draws T
  have G__law_flow := ok__law_flow (P := row.prog) (w := w) (mg := mg) (base := base) (A := A) F__law_flow b__law_flow T G__law_draw
  have G__law_made := ok__law_made (P := row.prog) (w := w) (mg := mg) (base := base) (A := A) F__law_made b__law_made T G_Sender_init
  have G__law_new_sender := ok__law_new_sender (P := row.prog) (w := w) (mg := mg) (base := base) (A := A) F__law_new_sender b__law_new_sender T
  have G__law_sender_begins := ok__law_sender_begins (P := row.prog) (w := w) (mg := mg) (base := base) (A := A) F__law_sender_begins b__law_sender_begins T
  have G__law_sender_next := ok__law_sender_next (P := row.prog) (w := w) (mg := mg) (base := base) (A := A) F__law_sender_next b__law_sender_next T
  have G__law_sender_on := ok__law_sender_on (P := row.prog) (w := w) (mg := mg) (base := base) (A := A) F__law_sender_on b__law_sender_on T G__law_sender_next
  have G__law_sender_gets := ok__law_sender_gets (P := row.prog) (w := w) (mg := mg) (base := base) (A := A) F__law_sender_gets b__law_sender_gets T G__law_sender_on
  exact ok_law (A := A) F_law b_law T G_Sender_due G_Sender_init G__law_called G__law_draw G__law_draws G__law_flow G__law_made G__law_new_sender (ok__law_same (w := w) (mg := mg) (base := base) (A := A) (P := row.prog) F__law_same b__law_same T 8) G__law_sender_begins G__law_sender_gets G__law_sender_on
end K47
open PySem PySem.W PyProof.Rows in
set_option maxRecDepth 100000 in
set_option maxHeartbeats 0 in
theorem PySem.Challenge.cw_axlewire_k47_whole_senders_of_parts_holds : PySem.Challenge.rw_axlewire_k47_whole_senders_of_parts.Holds := by
  w_on; o_law; k_head; (case hw => w_witness2)
  k_fill
  refine L2.walk_of (l := PySem.Challenge.rw_axlewire_k47_whole_senders_of_parts) (n := 63) (k := 10) (x := "script") (CX := fun w => L2.CX PySem.Challenge.rw_axlewire_k47_whole_senders_of_parts.prog w) (sp := fun w => Ax.lowSp (_ : PySem.W.Frag) Ax.spL) rfl (by decide) rfl ⟨rfl, by decide, by decide⟩ (fun w h Y => PySem.W.kIn_of Y) ?F (fun w H a ns hl _ hS => Ax.law_hsp hl hS) (fun _ _ _ _ _ z => Ax.law_hCX z)
  case F =>
    intro w mg fa h KX G hmg
    refine' K47.all_mk KX G hmg ?g_Clock ?g_Sender ?a1 ?l1 ?c1 ?k1 ?a2 ?l2 ?c2 ?k2 ?a3 ?l3 ?c3 ?k3 ?a4 ?l4 ?c4 ?k4 ?a5 ?l5 ?c5 ?k5 ?a6 ?l6 ?c6 ?k6 ?a7 ?l7 ?c7 ?k7 ?a8 ?l8 ?c8 ?k8 ?i8 ?a9 ?l9 ?c9 ?k9 ?i9 ?a10 ?l10 ?c10 ?k10 ?i10 ?a11 ?l11 ?c11 ?k11 ?i11 ?a12 ?l12 ?c12 ?k12 ?i12 ?a13 ?l13 ?c13 ?k13 ?i13 ?a14 ?l14 ?c14 ?k14 ?i14 ?a15 ?l15 ?c15 ?k15 ?i15 ?a16 ?l16 ?c16 ?k16 ?i16 ?a17 ?l17 ?c17 ?k17 ?a18 ?l18 ?c18 ?k18 ?a19 ?l19 ?c19 ?k19 ?a20 ?l20 ?c20 ?k20 ?a21 ?l21 ?c21 ?k21 ?a22 ?l22 ?c22 ?k22 ?a23 ?l23 ?c23 ?k23 ?a24 ?l24 ?c24 ?k24 ?a25 ?l25 ?c25 ?k25 ?a26 ?l26 ?c26 ?k26 ?a27 ?l27 ?c27 ?k27 ?a28 ?l28 ?c28 ?k28 ?pg_Clock ?hd_Clock ?po_Clock ?sa_Clock ?mk_Clock ?kc_Clock ?no_Clock_now ?pg_Sender ?hd_Sender ?po_Sender ?sa_Sender ?mk_Sender ?kc_Sender ?no_Sender_data ?no_Sender_waits ?no_Sender_state ?no_Sender_clock ?no_Sender_at ?no_Sender_number ?no_Sender_left ?no_Sender_gap ?no_Sender_bell ?z_all ?z_bool ?z_dict ?z_int ?z_isinstance ?z_len ?z_list ?z_min ?z_range ?z_str ?z_tuple ?q_LATE ?q_LONGEST_GAP ?q_MOST ?zsuper ?op ?gx_DeedWrong ?gx_Wrong ?xo_DeedWrong ?xr_DeedWrong ?xs_DeedWrong ?xb_DeedWrong ?xt_DeedWrong ?xkc_DeedWrong ?xm_DeedWrong ?xi_DeedWrong ?xl_DeedWrong ?xc_DeedWrong ?xd_DeedWrong ?xv_DeedWrong ?xf_DeedWrong ?xcc_DeedWrong ?xcl_DeedWrong ?xk_DeedWrong ?xo_Wrong ?xr_Wrong ?xs_Wrong ?xb_Wrong ?xt_Wrong ?xkc_Wrong ?xm_Wrong ?xi_Wrong ?xl_Wrong ?xc_Wrong ?xd_Wrong ?xv_Wrong ?xf_Wrong ?xcc_Wrong ?xcl_Wrong ?xk_Wrong ?xfB_DeedWrong ?xl_CarError ?xc_CarError ?xd_CarError ?xv_CarError ?xf_CarError ?xcc_CarError ?xcl_CarError ?xk_CarError ?td ?xmB_DeedWrong ?xfV_DeedWrong ?xV_DeedWrong ?xat_DeedWrong ?xnm_DeedWrong ?xti_DeedWrong ?xga_DeedWrong ?xgg_DeedWrong ?xhd_DeedWrong ?xic_DeedWrong ?xss_DeedWrong ?xfB_Wrong ?xmB_Wrong ?xfV_Wrong ?xV_Wrong ?xat_Wrong ?xnm_Wrong ?xti_Wrong ?xga_Wrong ?xgg_Wrong ?xhd_Wrong ?xic_Wrong ?xss_Wrong ?tB ?fB
    (case g_Clock => k_is)
    (case g_Sender => k_is)
    (case a1 => k_is)
    (case l1 => k_is)
    (case c1 => k_is)
    (case k1 => k_is)
    (case a2 => k_is)
    (case l2 => k_is)
    (case c2 => k_is)
    (case k2 => k_is)
    (case a3 => k_is)
    (case l3 => k_is)
    (case c3 => k_is)
    (case k3 => k_is)
    (case a4 => k_is)
    (case l4 => k_is)
    (case c4 => k_is)
    (case k4 => k_is)
    (case a5 => k_is)
    (case l5 => k_is)
    (case c5 => k_is)
    (case k5 => k_is)
    (case a6 => k_is)
    (case l6 => k_is)
    (case c6 => k_is)
    (case k6 => k_is)
    (case a7 => k_is)
    (case l7 => k_is)
    (case c7 => k_is)
    (case k7 => k_is)
    (case a8 => k_is)
    (case l8 => k_is)
    (case c8 => k_is)
    (case k8 => k_is)
    (case i8 => k_is)
    (case a9 => k_is)
    (case l9 => k_is)
    (case c9 => k_is)
    (case k9 => k_is)
    (case i9 => k_is)
    (case a10 => k_is)
    (case l10 => k_is)
    (case c10 => k_is)
    (case k10 => k_is)
    (case i10 => k_is)
    (case a11 => k_is)
    (case l11 => k_is)
    (case c11 => k_is)
    (case k11 => k_is)
    (case i11 => k_is)
    (case a12 => k_is)
    (case l12 => k_is)
    (case c12 => k_is)
    (case k12 => k_is)
    (case i12 => k_is)
    (case a13 => k_is)
    (case l13 => k_is)
    (case c13 => k_is)
    (case k13 => k_is)
    (case i13 => k_is)
    (case a14 => k_is)
    (case l14 => k_is)
    (case c14 => k_is)
    (case k14 => k_is)
    (case i14 => k_is)
    (case a15 => k_is)
    (case l15 => k_is)
    (case c15 => k_is)
    (case k15 => k_is)
    (case i15 => k_is)
    (case a16 => k_is)
    (case l16 => k_is)
    (case c16 => k_is)
    (case k16 => k_is)
    (case i16 => k_is)
    (case a17 => k_is)
    (case l17 => k_is)
    (case c17 => k_is)
    (case k17 => k_is)
    (case a18 => k_is)
    (case l18 => k_is)
    (case c18 => k_is)
    (case k18 => k_is)
    (case a19 => k_is)
    (case l19 => k_is)
    (case c19 => k_is)
    (case k19 => k_is)
    (case a20 => k_is)
    (case l20 => k_is)
    (case c20 => k_is)
    (case k20 => k_is)
    (case a21 => k_is)
    (case l21 => k_is)
    (case c21 => k_is)
    (case k21 => k_is)
    (case a22 => k_is)
    (case l22 => k_is)
    (case c22 => k_is)
    (case k22 => k_is)
    (case a23 => k_is)
    (case l23 => k_is)
    (case c23 => k_is)
    (case k23 => k_is)
    (case a24 => k_is)
    (case l24 => k_is)
    (case c24 => k_is)
    (case k24 => k_is)
    (case a25 => k_is)
    (case l25 => k_is)
    (case c25 => k_is)
    (case k25 => k_is)
    (case a26 => k_is)
    (case l26 => k_is)
    (case c26 => k_is)
    (case k26 => k_is)
    (case a27 => k_is)
    (case l27 => k_is)
    (case c27 => k_is)
    (case k27 => k_is)
    (case a28 => k_is)
    (case l28 => k_is)
    (case c28 => k_is)
    (case k28 => k_is)
    (case pg_Clock => k_is)
    (case hd_Clock => k_is)
    (case po_Clock => k_is)
    (case sa_Clock => k_is)
    (case mk_Clock => k_is)
    (case kc_Clock => k_is)
    (case no_Clock_now => k_is)
    (case pg_Sender => k_is)
    (case hd_Sender => k_is)
    (case po_Sender => k_is)
    (case sa_Sender => k_is)
    (case mk_Sender => k_is)
    (case kc_Sender => k_is)
    (case no_Sender_data => k_is)
    (case no_Sender_waits => k_is)
    (case no_Sender_state => k_is)
    (case no_Sender_clock => k_is)
    (case no_Sender_at => k_is)
    (case no_Sender_number => k_is)
    (case no_Sender_left => k_is)
    (case no_Sender_gap => k_is)
    (case no_Sender_bell => k_is)
    (case z_all => k_is)
    (case z_bool => k_is)
    (case z_dict => k_is)
    (case z_int => k_is)
    (case z_isinstance => k_is)
    (case z_len => k_is)
    (case z_list => k_is)
    (case z_min => k_is)
    (case z_range => k_is)
    (case z_str => k_is)
    (case z_tuple => k_is)
    (case q_LATE => k_is)
    (case q_LONGEST_GAP => k_is)
    (case q_MOST => k_is)
    (case zsuper => k_is)
    (case op => k_is)
    (case gx_DeedWrong => k_is)
    (case gx_Wrong => k_is)
    (case xo_DeedWrong => k_is)
    (case xr_DeedWrong => decide +kernel)
    (case xs_DeedWrong => k_is)
    (case xb_DeedWrong => k_is)
    (case xt_DeedWrong => k_is)
    (case xkc_DeedWrong => k_is)
    (case xm_DeedWrong => k_is)
    (case xi_DeedWrong => k_is)
    (case xl_DeedWrong => k_is)
    (case xc_DeedWrong => k_is)
    (case xd_DeedWrong => k_is)
    (case xv_DeedWrong => rfl)
    (case xf_DeedWrong => decide +kernel)
    (case xcc_DeedWrong => k_is)
    (case xcl_DeedWrong => k_is)
    (case xk_DeedWrong => k_is)
    (case xo_Wrong => k_is)
    (case xr_Wrong => decide +kernel)
    (case xs_Wrong => k_is)
    (case xb_Wrong => k_is)
    (case xt_Wrong => k_is)
    (case xkc_Wrong => k_is)
    (case xm_Wrong => k_is)
    (case xi_Wrong => k_is)
    (case xl_Wrong => k_is)
    (case xc_Wrong => k_is)
    (case xd_Wrong => k_is)
    (case xv_Wrong => rfl)
    (case xf_Wrong => decide +kernel)
    (case xcc_Wrong => k_is)
    (case xcl_Wrong => k_is)
    (case xk_Wrong => k_is)
    (case xfB_DeedWrong => ks_is)
    (case xl_CarError => k_is)
    (case xc_CarError => k_is)
    (case xd_CarError => k_is)
    (case xv_CarError => rfl)
    (case xf_CarError => decide +kernel)
    (case xcc_CarError => k_is)
    (case xcl_CarError => k_is)
    (case xk_CarError => k_is)
    (case td => k_is)
    (case xmB_DeedWrong => k_is)
    (case xfV_DeedWrong => ks_is)
    (case xV_DeedWrong => k_is)
    (case xat_DeedWrong => k_is)
    (case xnm_DeedWrong => k_is)
    (case xti_DeedWrong => k_is)
    (case xga_DeedWrong => k_is)
    (case xgg_DeedWrong => k_is)
    (case xhd_DeedWrong => k_is)
    (case xic_DeedWrong => k_is)
    (case xss_DeedWrong => first | rfl | k_is)
    (case xfB_Wrong => ks_is)
    (case xmB_Wrong => k_is)
    (case xfV_Wrong => ks_is)
    (case xV_Wrong => k_is)
    (case xat_Wrong => k_is)
    (case xnm_Wrong => k_is)
    (case xti_Wrong => k_is)
    (case xga_Wrong => k_is)
    (case xgg_Wrong => k_is)
    (case xhd_Wrong => k_is)
    (case xic_Wrong => k_is)
    (case xss_Wrong => first | rfl | k_is)
    (case tB => k_is)
    (case fB => k_is)
#print axioms PySem.Challenge.cw_axlewire_k47_whole_senders_of_parts_holds
