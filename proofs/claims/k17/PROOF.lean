import PyProof.Rows.All
import Wide.All
import OpenK.AllK
import Wide.FinOn
import HandS.ForMost
import HandS.ForExc
import HandS.TupAny
import HandS.TupMul
import HandS.IsInst
import HandS.Flow
import PyProof.NeKinds
import HandS.CallSlots
import HandS.Star
import HandS.WordsExc
import HandS.ExcInit
import KE.KExcInit
import PyProof.ExcBaseAll.OverflowError
import PyProof.ExcBaseAll.IndexError
import HandS.Wide
import HandS.WideBits
import HandS.Style
import HandS.Conv
import HandS.Deep
import PyProof.Rows.RuleB_pow
import PyProof.ReprRoads
import PyProof.CallFns
import HandS.ExcField
import PySem.Challenge.RW_sharedlets_k17_forms_of_addresses
set_option Elab.async false
set_option linter.all false
set_option maxRecDepth 100000
set_option maxHeartbeats 4000000
/-! Mi: plain data (PyData) and a small heap of mutable objects, and how they stand in the layer's abstract heap. -/
namespace Mi
open PySem PySem.Spec PyProof.Rows L2

abbrev Frg := PySem.W.Frag
/-- the addresses of the heap's objects; what is hidden besides -/
structure Rho where
  at_ : List Addr
  hid : List Addr
def Off (r : Rho) (a : Addr) : Prop := a ∉ r.at_ ∧ a ∉ r.hid
def Rho.push (r : Rho) (p : Addr) : Rho := ⟨r.at_ ++ [p], r.hid⟩
def Rho.hide (r : Rho) (p : Addr) : Rho := ⟨r.at_, p :: r.hid⟩
def Trk (r : Rho) (H : L2.Hp) : Prop := ∀ a, (a ∈ r.at_ ∨ a ∈ r.hid) → H a ≠ none
theorem Trk.off {r : Rho} {H : L2.Hp} (t : Trk r H) {p : Addr} (hp : H p = none) : Off r p := ⟨fun z => t p (.inl z) hp, fun z => t p (.inr z) hp⟩
abbrev PD := PyData

/-- a written tuple -/
def WrT (K : Frg) (a : Addr) (xs : List V) : Prop :=
  ∃ (o : Obj) (its : Array Value) (n : Nat), K.lookup a = some o ∧ o.cls = .type "tuple" ∧ o.data = .seq its n ∧ its.size ≤ sizeLine ∧ Vals xs its.toList
def StT (K : Frg) (r : Rho) (H : Hp) (a : Addr) (xs : List V) : Prop := (Rd H a (.tup xs) ∧ Off r a) ∨ WrT K a xs
theorem StT.sq {K : Frg} {r : Rho} {H : Hp} {a : Addr} {xs : List V} (h : StT K r H a xs) : SqT K H a xs := by
  rcases h with ⟨h, _⟩ | h
  · exact .inl h
  · exact .inr h
def kP : Key → PD
  | .inl i => .int i
  | .inr x => .str x

mutual
/-- v is the data d, where nothing of the heap r reaches it -/
inductive RP (K : Frg) (r : Rho) (H : Hp) : V → PD → Prop
  | non : RP K r H .non .none
  | bl (b : Bool) : RP K r H (.bl b) (.bool b)
  | int (i : Int) : RP K r H (.int i) (.int i)
  | str (x : Str) : RP K r H (.str x) (.str x)
  | lst {a : Addr} {xs : List V} {ds : List PD} : H a = some (.lst xs) → Off r a → RPs K r H xs ds → RP K r H (.ref a) (.list ds)
  | tup {a : Addr} {xs : List V} {ds : List PD} : StT K r H a xs → RPs K r H xs ds → RP K r H (.ref a) (.tuple ds)
  | dct {a : Addr} {kvs : List (Key × V)} {ds : List (PD × PD)} : Rd H a (.dK kvs) → Off r a → RPk K r H kvs ds → RP K r H (.ref a) (.dict ds)
inductive RPs (K : Frg) (r : Rho) (H : Hp) : List V → List PD → Prop
  | nil : RPs K r H [] []
  | cons {v : V} {vs : List V} {d : PD} {ds : List PD} : RP K r H v d → RPs K r H vs ds → RPs K r H (v :: vs) (d :: ds)
inductive RPk (K : Frg) (r : Rho) (H : Hp) : List (Key × V) → List (PD × PD) → Prop
  | nil : RPk K r H [] []
  | cons {k : Key} {v : V} {vs : List (Key × V)} {d : PD} {ds : List (PD × PD)} : RP K r H v d → RPk K r H vs ds → RPk K r H ((k, v) :: vs) ((kP k, d) :: ds)
end

/-- what stood, out of the heap r, stands -/
structure Stb (r : Rho) (H : Hp) (r' : Rho) (H' : Hp) : Prop where
  rd : ∀ a u, Rd H a u → Off r a → Rd H' a u ∧ Off r' a
  ex : ∀ a xs, H a = some (.lst xs) → Off r a → H' a = some (.lst xs)
/-- .. and the heap grows at its end, what is hidden stays -/
structure Ext (r : Rho) (H : Hp) (r' : Rho) (H' : Hp) : Prop where
  stb : Stb r H r' H'
  pre : ∃ t, r'.at_ = r.at_ ++ t
  hd : r'.hid = r.hid
  hk : ∀ a ∈ r.hid, H' a = H a
theorem Stb.refl (r : Rho) (H : Hp) : Stb r H r H := ⟨fun _ _ h n => ⟨h, n⟩, fun _ _ h _ => h⟩
theorem Ext.refl (r : Rho) (H : Hp) : Ext r H r H := ⟨.refl r H, ⟨[], by simp⟩, rfl, fun _ _ => rfl⟩
theorem Stb.trans {r r1 r2 : Rho} {H H1 H2 : Hp} (a : Stb r H r1 H1) (b : Stb r1 H1 r2 H2) : Stb r H r2 H2 := by
  refine ⟨fun c u h n => ?_, fun c xs h n => ?_⟩
  · obtain ⟨h1, n1⟩ := a.rd c u h n
    exact b.rd c u h1 n1
  · exact b.ex c xs (a.ex c xs h n) (a.rd c _ (.inl h) n).2
theorem Ext.trans {r r1 r2 : Rho} {H H1 H2 : Hp} (a : Ext r H r1 H1) (b : Ext r1 H1 r2 H2) : Ext r H r2 H2 := by
  refine ⟨a.stb.trans b.stb, ?_, b.hd.trans a.hd, fun c hc => (b.hk c (by rw [a.hd]; exact hc)).trans (a.hk c hc)⟩
  obtain ⟨t, e1⟩ := a.pre
  obtain ⟨t', e2⟩ := b.pre
  exact ⟨t ++ t', by rw [e2, e1]; simp⟩
theorem rd_some {H : Hp} {a : Addr} {u : HO} (h : Rd H a u) : ∃ o, H a = some o := by
  rcases h with h | ⟨o, h⟩
  · exact ⟨_, h⟩
  · exact ⟨_, h⟩
theorem rd_upd {H : Hp} {a p : Addr} {u o : HO} (h : Rd H a u) (ne : a ≠ p) : Rd (upd H p o) a u := by
  rcases h with h | ⟨w, h⟩
  · exact .inl (by rw [upd_ne ne]; exact h)
  · exact .inr ⟨w, by rw [upd_ne ne]; exact h⟩
theorem rd_ne {H : Hp} {a p : Addr} {u : HO} (h : Rd H a u) (hp : H p = none) : a ≠ p := by
  obtain ⟨o, e⟩ := rd_some h
  exact ne_of_none e hp
theorem rd_same {H H' : Hp} {a : Addr} {u : HO} (e : Same H H') (h : Rd H a u) : Rd H' a u := by
  rcases h with h | ⟨w, h⟩
  · exact .inl (e _ _ h)
  · exact .inr ⟨w, e _ _ h⟩
theorem Stb.same {r : Rho} {H H' : Hp} (e : Same H H') : Stb r H r H' := ⟨fun _ _ h n => ⟨rd_same e h, n⟩, fun _ _ h _ => e _ _ h⟩
theorem Ext.same {r : Rho} {H H' : Hp} (t : Trk r H) (e : Same H H') : Ext r H r H' := ⟨.same e, ⟨[], by simp⟩, rfl, fun a ha => by
  cases q : H a with
  | none => exact absurd q (t a (.inr ha))
  | some o => exact e a o q⟩
theorem same_new {H : Hp} {p : Addr} {o : HO} (h : H p = none) : Same H (upd H p o) := fun b x e => by
  rw [upd_ne (ne_of_none e h)]
  exact e
theorem Ext.newM {r : Rho} {H : Hp} {p : Addr} {o : HO} (t : Trk r H) (h : H p = none) : Ext r H (r.push p) (upd H p o) := by
  refine ⟨⟨fun a u q n => ⟨rd_upd q (rd_ne q h), fun z => ?_, n.2⟩, fun a xs q n => by rw [upd_ne (ne_of_none q h)]; exact q⟩, ⟨[p], rfl⟩, rfl, fun a ha => ?_⟩
  · rcases List.mem_append.mp z with z | z
    · exact n.1 z
    · exact rd_ne q h (by simpa using z)
  · exact upd_ne fun e => t a (.inr ha) (by rw [e]; exact h)
theorem Ext.mut {r : Rho} {H : Hp} {p : Addr} {o : HO} (h : p ∈ r.at_) (hh : p ∉ r.hid) : Ext r H r (upd H p o) :=
  ⟨⟨fun a u q n => ⟨rd_upd q (fun e => n.1 (e ▸ h)), n⟩, fun a xs q n => by rw [upd_ne (show a ≠ p from fun e => n.1 (e ▸ h))]; exact q⟩, ⟨[], by simp⟩, rfl, fun a ha => upd_ne fun e => hh (e ▸ ha)⟩

section
variable {K : Frg} {r r' : Rho} {H H' : Hp}
theorem StT.mono (e : Stb r H r' H') {a : Addr} {xs : List V} (h : StT K r H a xs) : StT K r' H' a xs := by
  rcases h with ⟨h, n⟩ | h
  · exact .inl (e.rd _ _ h n)
  · exact .inr h
mutual
theorem RP.mono (e : Stb r H r' H') : ∀ (d : PD) (v : V), RP K r H v d → RP K r' H' v d
  | .none, _, h => by cases h; exact .non
  | .bool b, _, h => by cases h; exact .bl b
  | .int i, _, h => by cases h; exact .int i
  | .str x, _, h => by cases h; exact .str x
  | .list ds, _, h => by
    cases h with
    | lst h1 h2 h3 => exact .lst (e.ex _ _ h1 h2) (e.rd _ _ (.inl h1) h2).2 (RPs.mono e ds _ h3)
  | .tuple ds, _, h => by
    cases h with
    | tup h1 h2 => exact .tup (h1.mono e) (RPs.mono e ds _ h2)
  | .dict ds, _, h => by
    cases h with
    | dct h1 h2 h3 =>
      obtain ⟨q1, q2⟩ := e.rd _ _ h1 h2
      exact .dct q1 q2 (RPk.mono e ds _ h3)
theorem RPs.mono (e : Stb r H r' H') : ∀ (ds : List PD) (vs : List V), RPs K r H vs ds → RPs K r' H' vs ds
  | [], _, h => by cases h; exact .nil
  | d :: ds, _, h => by
    cases h with
    | cons h1 h2 => exact .cons (RP.mono e d _ h1) (RPs.mono e ds _ h2)
theorem RPk.mono (e : Stb r H r' H') : ∀ (ds : List (PD × PD)) (vs : List (Key × V)), RPk K r H vs ds → RPk K r' H' vs ds
  | [], _, h => by cases h; exact .nil
  | (k, d) :: ds, _, h => by
    cases h with
    | cons h1 h2 => exact .cons (RP.mono e d _ h1) (RPk.mono e ds _ h2)
end
theorem RP.sm {d : PD} {v : V} (h : RP K r H v d) (e : Same H H') : RP K r H' v d := RP.mono (.same e) d v h
theorem RPs.sm {d : List PD} {v : List V} (h : RPs K r H v d) (e : Same H H') : RPs K r H' v d := RPs.mono (.same e) d v h
theorem RP.ext {d : PD} {v : V} (h : RP K r H v d) (e : Ext r H r' H') : RP K r' H' v d := RP.mono e.stb d v h
theorem RPs.ext {d : List PD} {v : List V} (h : RPs K r H v d) (e : Ext r H r' H') : RPs K r' H' v d := RPs.mono e.stb d v h
theorem RPk.ext {d : List (PD × PD)} {v : List (Key × V)} (h : RPk K r H v d) (e : Ext r H r' H') : RPk K r' H' v d := RPk.mono e.stb d v h
theorem RPs.length {ds : List PD} {vs : List V} (h : RPs K r H vs ds) : vs.length = ds.length := by
  induction ds generalizing vs with
  | nil => cases h; rfl
  | cons d ds ih =>
    cases h with
    | cons h1 h2 => simp [ih h2]
theorem RPs.get {ds : List PD} {vs : List V} (h : RPs K r H vs ds) {i : Nat} {d : PD} (e : ds[i]? = some d) : ∃ v, vs[i]? = some v ∧ RP K r H v d := by
  induction ds generalizing vs i with
  | nil => simp at e
  | cons c ds ih =>
    cases h with
    | cons h1 h2 =>
      cases i with
      | zero => simp at e; subst e; exact ⟨_, rfl, h1⟩
      | succ i => simp at e; obtain ⟨v, q1, q2⟩ := ih h2 e; exact ⟨v, by simpa using q1, q2⟩
theorem RPs.append {ds es : List PD} {vs us : List V} (h : RPs K r H vs ds) (h' : RPs K r H us es) : RPs K r H (vs ++ us) (ds ++ es) := by
  induction ds generalizing vs with
  | nil => cases h; exact h'
  | cons d ds ih =>
    cases h with
    | cons h1 h2 => exact .cons h1 (ih h2)
theorem RPs.take {ds : List PD} {vs : List V} (h : RPs K r H vs ds) (n : Nat) : RPs K r H (vs.take n) (ds.take n) := by
  induction ds generalizing vs n with
  | nil => cases h; simp; exact .nil
  | cons d ds ih =>
    cases h with
    | cons h1 h2 =>
      cases n with
      | zero => exact .nil
      | succ n => exact .cons h1 (ih h2 n)
theorem RPs.drop {ds : List PD} {vs : List V} (h : RPs K r H vs ds) (n : Nat) : RPs K r H (vs.drop n) (ds.drop n) := by
  induction ds generalizing vs n with
  | nil => cases h; simp; exact .nil
  | cons d ds ih =>
    cases h with
    | cons h1 h2 =>
      cases n with
      | zero => exact .cons h1 h2
      | succ n => exact ih h2 n
theorem RPs.eraseIdx {ds : List PD} {vs : List V} (h : RPs K r H vs ds) (n : Nat) : RPs K r H (vs.eraseIdx n) (ds.eraseIdx n) := by
  induction ds generalizing vs n with
  | nil => cases h; exact .nil
  | cons d ds ih =>
    cases h with
    | cons h1 h2 =>
      cases n with
      | zero => exact h2
      | succ n => exact .cons h1 (ih h2 n)
theorem RPs.set {ds : List PD} {vs : List V} (h : RPs K r H vs ds) {v : V} {d : PD} (q : RP K r H v d) (n : Nat) : RPs K r H (vs.set n v) (ds.set n d) := by
  induction ds generalizing vs n with
  | nil => cases h; exact .nil
  | cons c ds ih =>
    cases h with
    | cons h1 h2 =>
      cases n with
      | zero => exact .cons q h2
      | succ n => exact .cons h1 (ih h2 n)
theorem RPs.rep {ds : List PD} {vs : List V} (h : RPs K r H vs ds) : ∀ k : Nat, RPs K r H (List.replicate k vs).flatten (List.replicate k ds).flatten
  | 0 => .nil
  | k + 1 => by
    rw [List.replicate_succ, List.replicate_succ, List.flatten_cons, List.flatten_cons]
    exact h.append (RPs.rep h k)
theorem RPs.reverse {ds : List PD} {vs : List V} (h : RPs K r H vs ds) : RPs K r H vs.reverse ds.reverse := by
  induction ds generalizing vs with
  | nil => cases h; exact .nil
  | cons d ds ih =>
    cases h with
    | cons h1 h2 =>
      rw [List.reverse_cons, List.reverse_cons]
      exact (ih h2).append (.cons h1 .nil)
/-! data without dicts is the layer's own deep data -/
mutual
theorem rp_dp : ∀ (d : PD) (v : V), d.canLay0 = true → RP K r H v d → Dp K H v d
  | .none, _, _, h => by cases h; exact .non
  | .bool b, _, _, h => by cases h; exact .bl b
  | .int i, _, _, h => by cases h; exact .int i
  | .str x, _, _, h => by cases h; exact .str x
  | .list ds, _, c, h => by
    cases h with
    | lst h1 h2 h3 => exact .lst (.inl (.inl h1)) (rps_dp ds _ (by simpa [PyData.canLay0] using c) h3)
  | .tuple ds, _, c, h => by
    cases h with
    | tup h1 h2 => exact .tup h1.sq (rps_dp ds _ (by simpa [PyData.canLay0] using c) h2)
  | .dict ds, _, c, h => by simp [PyData.canLay0] at c
theorem rps_dp : ∀ (ds : List PD) (vs : List V), PyData.canLayAll0 ds = true → RPs K r H vs ds → DpAll K H vs ds
  | [], _, _, h => by cases h; exact .nil
  | d :: ds, _, c, h => by
    cases h with
    | cons h1 h2 =>
      simp only [PyData.canLayAll0, Bool.and_eq_true] at c
      exact .cons (rp_dp d _ c.1 h1) (rps_dp ds _ c.2 h2)
end
end

/-! ### values, the heap of mutable objects, states -/
inductive D where
  | dat (d : PD)
  | ref (n : Nat)
  | scr (ns : List Int)
inductive Ob where
  | lst (ds : List PD)
  | dct (ds : List (PD × PD))
abbrev Hd := List Ob
abbrev Loc := List (Option D)
def Ob.py : Ob → PD
  | .lst ds => .list ds
  | .dct ds => .dict ds
/-- what a value is now, as data -/
def rd (h : Hd) : D → Option PD
  | .dat d => some d
  | .ref n => (h[n]?).map Ob.py
  | .scr ns => some (.list (ns.map .int))
/-- .. the script left out: an operation that asks the object itself -/
def rdx (h : Hd) : D → Option PD
  | .dat d => some d
  | .ref n => (h[n]?).map Ob.py
  | .scr _ => none
section
variable (K : Frg) (r : Rho) (H : Hp)
/-- a written list -/
def WrL (a : Addr) (xs : List V) : Prop :=
  ∃ (o : Obj) (its : Array Value) (n : Nat), K.lookup a = some o ∧ o.cls = .type "list" ∧ o.dict = none ∧ o.data = .seq its n ∧ its.size ≤ sizeLine ∧ Vals xs its.toList
/-- a list that nobody changes -/
def ScL (a : Addr) (xs : List V) : Prop := (Off r a ∧ Rd H a (.lst xs)) ∨ WrL K a xs
def RO : Ob → Addr → Prop
  | .lst ds, a => ∃ ys, H a = some (.lst ys) ∧ RPs K r H ys ds
  | .dct ds, a => ∃ ys, H a = some (.dK ys) ∧ RPk K r H ys ds
structure RH (h : Hd) : Prop where
  nd : r.at_.Nodup
  len : r.at_.length = h.length
  ob : ∀ (n : Nat) (o : Ob) (a : Addr), h[n]? = some o → r.at_[n]? = some a → RO K r H o a
  hd : ∀ a ∈ r.hid, H a ≠ none ∧ a ∉ r.at_
def RV : V → D → Prop
  | v, .dat d => RP K r H v d
  | v, .ref n => ∃ a, r.at_[n]? = some a ∧ v = .ref a
  | v, .scr ns => ∃ a, v = .ref a ∧ ScL K r H a (ns.map V.int)
def RL (l : Loc) (s : L2.St) : Prop := l.length = s.length ∧ ∀ (i : Nat) d, l[i]? = some (some d) → ∃ v, s[i]? = some (some v) ∧ RV K r H v d
inductive RVs : List V → List D → Prop
  | nil : RVs [] []
  | cons {v : V} {vs : List V} {d : D} {ds : List D} : RV K r H v d → RVs vs ds → RVs (v :: vs) (d :: ds)
/-- v is d now, the object itself; v may be read as d now -/
def Vx (v : V) (d : PD) : Prop := RP K r H v d ∨ (∃ o a, d = Ob.py o ∧ v = .ref a ∧ a ∈ r.at_ ∧ RO K r H o a)
def Vw (v : V) (d : PD) : Prop := Vx K r H v d ∨ (∃ ns a, d = .list (List.map PyData.int ns) ∧ v = .ref a ∧ SqL K H a (ns.map V.int))
end
section
variable {K : Frg} {r r' : Rho} {H H' : Hp} {h : Hd}
theorem ScL.sq {a : Addr} {xs : List V} (q : ScL K r H a xs) : SqL K H a xs := by
  rcases q with ⟨_, h⟩ | h
  · exact .inl h
  · exact .inr h
theorem ScL.mono {a : Addr} {xs : List V} (q : ScL K r H a xs) (e : Stb r H r' H') : ScL K r' H' a xs := by
  rcases q with ⟨h1, h2⟩ | h
  · exact .inl ⟨(e.rd _ _ h2 h1).2, (e.rd _ _ h2 h1).1⟩
  · exact .inr h
theorem RO.some {o : Ob} {a : Addr} (q : RO K r H o a) : ∃ u, H a = Option.some u := by
  cases o with
  | lst ds => obtain ⟨_, e, _⟩ := q; exact ⟨_, e⟩
  | dct ds => obtain ⟨_, e, _⟩ := q; exact ⟨_, e⟩
theorem RH.tr (q : RH K r H h) : Trk r H := fun a ha e => by
  rcases ha with ha | ha
  · obtain ⟨n, hn⟩ := List.mem_iff_getElem?.mp ha
    have hlt : n < h.length := by
      rw [← q.len]
      exact (List.getElem?_eq_some_iff.mp hn).1
    obtain ⟨u, z⟩ := (q.ob n _ a (List.getElem?_eq_getElem hlt) hn).some
    rw [e] at z
    cases z
  · exact (q.hd a ha).1 e
theorem RH.fresh (q : RH K r H h) {p : Addr} (hp : H p = none) : Off r p := q.tr.off hp
theorem RO.keep {o : Ob} {a : Addr} (q : RO K r H o a) (e : Stb r H r' H') (hk : H' a = H a) : RO K r' H' o a := by
  cases o with
  | lst ds => obtain ⟨ys, e1, e2⟩ := q; exact ⟨ys, by rw [hk]; exact e1, RPs.mono e _ _ e2⟩
  | dct ds => obtain ⟨ys, e1, e2⟩ := q; exact ⟨ys, by rw [hk]; exact e1, RPk.mono e _ _ e2⟩
theorem RH.same (q : RH K r H h) (e : Same H H') : RH K r H' h := by
  refine ⟨q.nd, q.len, fun n o a h1 h2 => ?_, fun a ha => ⟨?_, (q.hd a ha).2⟩⟩
  · have z := q.ob n o a h1 h2
    obtain ⟨u, hu⟩ := z.some
    exact z.keep (.same e) (by rw [hu]; exact e _ _ hu)
  · cases w : H a with
    | none => exact absurd w (q.hd a ha).1
    | some o => rw [e a o w]; exact fun z => by cases z
/-- one more object -/
theorem RH.new (q : RH K r H h) {p : Addr} {u : HO} {o : Ob} (hp : H p = none) (new : RO K (r.push p) (upd H p u) o p) : RH K (r.push p) (upd H p u) (h ++ [o]) := by
  refine ⟨?_, by simp [Rho.push, q.len], fun n o' a h1 h2 => ?_, fun a ha => ⟨?_, fun z => ?_⟩⟩
  · show (r.at_ ++ [p]).Nodup
    rw [List.nodup_append]
    refine ⟨q.nd, by simp, fun x hx y hy z => ?_⟩
    have ey : y = p := by simpa using hy
    subst ey
    subst z
    exact (q.fresh hp).1 hx
  · have h2 : (r.at_ ++ [p])[n]? = some a := h2
    by_cases hn : n < h.length
    · rw [List.getElem?_append_left hn] at h1
      rw [List.getElem?_append_left (by rw [q.len]; exact hn)] at h2
      have z := q.ob n o' a h1 h2
      obtain ⟨w, hw⟩ := z.some
      exact z.keep (Ext.newM q.tr hp).stb (by rw [upd_ne (ne_of_none hw hp)])
    · have e1 : n = h.length := by
        have := (List.getElem?_eq_some_iff.mp h1).1
        simp at this
        omega
      subst e1
      rw [List.getElem?_append_right (Nat.le_refl _)] at h1
      rw [← q.len, List.getElem?_append_right (Nat.le_refl _)] at h2
      simp at h1 h2
      subst h1
      subst h2
      exact new
  · have hne : a ≠ p := fun z => (q.hd a ha).1 (by rw [z]; exact hp)
    rw [upd_ne hne]
    exact (q.hd a ha).1
  · rcases List.mem_append.mp z with z | z
    · exact (q.hd a ha).2 z
    · have ey : a = p := by simpa using z
      exact (q.hd a ha).1 (by rw [ey]; exact hp)
/-- an object changes -/
theorem RH.nohid (q : RH K r H h) {p : Addr} (hp : p ∈ r.at_) : p ∉ r.hid := fun z => (q.hd p z).2 hp
theorem RH.set (q : RH K r H h) {p : Addr} {n : Nat} {u : HO} {o : Ob} (hn : r.at_[n]? = some p) (new : RO K r (upd H p u) o p) : RH K r (upd H p u) (h.set n o) := by
  have hp : p ∈ r.at_ := List.mem_of_getElem? hn
  refine ⟨q.nd, by simp [q.len], fun m o' a h1 h2 => ?_, fun a ha => ⟨?_, (q.hd a ha).2⟩⟩
  · by_cases e : m = n
    · subst e
      have hlt : m < h.length := by
        rw [← q.len]
        exact (List.getElem?_eq_some_iff.mp hn).1
      rw [List.getElem?_set_self hlt] at h1
      rw [hn] at h2
      cases h1
      cases h2
      exact new
    · rw [List.getElem?_set_ne (Ne.symm e)] at h1
      have z := q.ob m o' a h1 h2
      refine z.keep (Ext.mut hp (q.nohid hp)).stb (upd_ne fun w => e ?_)
      subst w
      obtain ⟨l1, e1⟩ := List.getElem?_eq_some_iff.mp h2
      obtain ⟨l2, e2⟩ := List.getElem?_eq_some_iff.mp hn
      exact (List.getElem_inj q.nd).mp (e1.trans e2.symm)
  · have hne : a ≠ p := fun z => (q.hd a ha).2 (by rw [z]; exact hp)
    rw [upd_ne hne]
    exact (q.hd a ha).1
/-- the heap cut to its first objects -/
theorem RH.cut (q : RH K r' H h) {t : List Addr} (e1 : r'.at_ = r.at_ ++ t) (e2 : r'.hid = r.hid) : RH K r H (h.take r.at_.length) := by
  have hl := q.len
  rw [e1, List.length_append] at hl
  have nd := q.nd
  rw [e1] at nd
  refine ⟨(List.nodup_append.mp nd).1, by rw [List.length_take]; omega, fun n o a h1 h2 => ?_, fun a ha => ?_⟩
  · have hn := (List.getElem?_eq_some_iff.mp h2).1
    rw [List.getElem?_take_of_lt hn] at h1
    have z := q.ob n o a h1 (by rw [e1, List.getElem?_append_left hn]; exact h2)
    have e : Stb r' H r H := ⟨fun b u x y => ⟨x, fun w => y.1 (by rw [e1]; exact List.mem_append_left _ w), fun w => y.2 (by rw [e2]; exact w)⟩, fun b xs x _ => x⟩
    exact z.keep e rfl
  · obtain ⟨z1, z2⟩ := q.hd a (by rw [e2]; exact ha)
    exact ⟨z1, fun w => z2 (by rw [e1]; exact List.mem_append_left _ w)⟩
/-- something is hidden; it comes back -/
theorem RH.hide (q : RH K r H h) {p : Addr} {o : HO} (hp : H p = none) : RH K (r.hide p) (upd H p o) h := by
  have st : Stb r H (r.hide p) (upd H p o) := ⟨fun a u x y => ⟨rd_upd x (rd_ne x hp), y.1, fun w => (List.mem_cons.mp w).elim (rd_ne x hp) y.2⟩, fun a xs x y => by rw [upd_ne (ne_of_none x hp)]; exact x⟩
  refine ⟨q.nd, q.len, fun n o' a h1 h2 => ?_, fun a ha => ?_⟩
  · have z := q.ob n o' a h1 h2
    obtain ⟨w, hw⟩ := z.some
    exact z.keep st (upd_ne (ne_of_none hw hp))
  · rcases List.mem_cons.mp ha with e | ha
    · subst e
      exact ⟨by rw [upd_same]; exact (fun z => by cases z), fun z => q.tr a (.inl z) hp⟩
    · have hne : a ≠ p := fun z => (q.hd a ha).1 (by rw [z]; exact hp)
      exact ⟨by rw [upd_ne hne]; exact (q.hd a ha).1, (q.hd a ha).2⟩
theorem RV.ext {v : V} {d : D} (q : RV K r H v d) (e : Ext r H r' H') : RV K r' H' v d := by
  cases d with
  | dat d => exact RP.ext q e
  | ref n =>
    obtain ⟨a, h1, h2⟩ := q
    obtain ⟨t, et⟩ := e.pre
    exact ⟨a, by rw [et, List.getElem?_append_left (List.getElem?_eq_some_iff.mp h1).1]; exact h1, h2⟩
  | scr ns =>
    obtain ⟨a, h1, h2⟩ := q
    exact ⟨a, h1, h2.mono e.stb⟩
theorem RVs.ext {v : List V} {d : List D} (q : RVs K r H v d) (e : Ext r H r' H') : RVs K r' H' v d := by
  induction q with
  | nil => exact .nil
  | cons a b ih => exact .cons (a.ext e) ih
theorem RVs.length {v : List V} {d : List D} (q : RVs K r H v d) : v.length = d.length := by
  induction q with
  | nil => rfl
  | cons a b ih => simp [ih]
theorem RL.ext {l : Loc} {s : L2.St} (q : RL K r H l s) (e : Ext r H r' H') : RL K r' H' l s :=
  ⟨q.1, fun i d h => let ⟨v, h1, h2⟩ := q.2 i d h; ⟨v, h1, h2.ext e⟩⟩
theorem RL.set {l : Loc} {s : L2.St} (q : RL K r H l s) {v : V} {d : D} (z : RV K r H v d) (i : Nat) : RL K r H (l.set i (some d)) (s.set i (some v)) := by
  refine ⟨by simp [q.1], fun j c h => ?_⟩
  by_cases e : j = i
  · subst e
    have hlt : j < l.length := by
      have := (List.getElem?_eq_some_iff.mp h).1
      simpa using this
    rw [List.getElem?_set_self hlt] at h
    cases h
    exact ⟨v, by rw [List.getElem?_set_self (by rw [← q.1]; exact hlt)], z⟩
  · rw [List.getElem?_set_ne (Ne.symm e)] at h
    obtain ⟨w, h1, h2⟩ := q.2 j c h
    exact ⟨w, by rw [List.getElem?_set_ne (Ne.symm e)]; exact h1, h2⟩
theorem vx_of {v : V} {d : D} {p : PD} (q : RH K r H h) (z : RV K r H v d) (e : rdx h d = some p) : Vx K r H v p := by
  cases d with
  | dat d =>
    have e' : d = p := Option.some.inj e
    subst e'
    exact .inl z
  | ref n =>
    obtain ⟨a, h1, rfl⟩ := z
    have e' : (h[n]?).map Ob.py = some p := e
    cases ho : h[n]? with
    | none => rw [ho] at e'; cases e'
    | some o =>
      rw [ho] at e'
      have e2 : Ob.py o = p := Option.some.inj e'
      exact .inr ⟨o, a, e2.symm, rfl, List.mem_of_getElem? h1, q.ob n o a ho h1⟩
  | scr ns => cases e
theorem vw_of {v : V} {d : D} {p : PD} (q : RH K r H h) (z : RV K r H v d) (e : rd h d = some p) : Vw K r H v p := by
  cases d with
  | dat d => exact .inl (vx_of q z e)
  | ref n => exact .inl (vx_of q z e)
  | scr ns =>
    have e' : PyData.list (ns.map .int) = p := Option.some.inj e
    obtain ⟨a, h1, h2⟩ := z
    exact .inr ⟨ns, a, e'.symm, h1, h2.sq⟩
/-- a plain value -/
def plainV : PD → Option V
  | .none => some .non
  | .bool b => some (.bl b)
  | .int i => some (.int i)
  | .str x => some (.str x)
  | _ => none
theorem Vx.plain {v w : V} {d : PD} (q : Vx K r H v d) (e : plainV d = some w) : v = w := by
  rcases q with q | ⟨o, a, z, _⟩
  · cases q <;> first | (cases e; rfl) | cases e
  · cases o <;> subst z <;> cases e
theorem Vw.plain {v w : V} {d : PD} (q : Vw K r H v d) (e : plainV d = some w) : v = w := by
  rcases q with q | ⟨ns, a, z, _⟩
  · exact q.plain e
  · subst z; cases e
theorem Vw.int {v : V} {i : Int} (q : Vw K r H v (.int i)) : v = .int i := q.plain rfl
theorem Vw.bool {v : V} {i : Bool} (q : Vw K r H v (.bool i)) : v = .bl i := q.plain rfl
theorem Vw.non {v : V} (q : Vw K r H v .none) : v = .non := q.plain rfl
theorem Vw.str {v : V} {x : Str} (q : Vw K r H v (.str x)) : v = .str x := q.plain rfl
theorem Vx.int {v : V} {i : Int} (q : Vx K r H v (.int i)) : v = .int i := q.plain rfl
theorem Vx.str {v : V} {x : Str} (q : Vx K r H v (.str x)) : v = .str x := q.plain rfl
theorem Vx.list {v : V} {ds : List PD} (q : Vx K r H v (.list ds)) : ∃ a ys, v = .ref a ∧ H a = some (.lst ys) ∧ RPs K r H ys ds := by
  rcases q with q | ⟨o, a, e, rfl, _, z⟩
  · cases q with
    | lst h1 h2 h3 => exact ⟨_, _, rfl, h1, h3⟩
  · cases o with
    | lst es =>
      have e' : ds = es := by cases e; rfl
      subst e'
      obtain ⟨ys, h1, h2⟩ := z
      exact ⟨a, ys, rfl, h1, h2⟩
    | dct es => cases e
theorem rps_ints (ns : List Int) : RPs K r H (ns.map V.int) (ns.map PyData.int) := by
  induction ns with
  | nil => exact .nil
  | cons n ns ih => exact .cons (.int n) ih
theorem Vw.list {v : V} {ds : List PD} (q : Vw K r H v (.list ds)) : ∃ a ys, v = .ref a ∧ SqL K H a ys ∧ RPs K r H ys ds := by
  rcases q with q | ⟨ns, a, e, h1, h2⟩
  · obtain ⟨a, ys, h1, h2, h3⟩ := q.list
    exact ⟨a, ys, h1, .inl (.inl h2), h3⟩
  · have e' : ds = ns.map PyData.int := by cases e; rfl
    subst e'
    exact ⟨a, _, h1, h2, rps_ints ns⟩
theorem Vx.tuple {v : V} {ds : List PD} (q : Vx K r H v (.tuple ds)) : ∃ a ys, v = .ref a ∧ StT K r H a ys ∧ RPs K r H ys ds := by
  rcases q with q | ⟨o, a, e, rfl, _, z⟩
  · cases q with
    | tup h1 h2 => exact ⟨_, _, rfl, h1, h2⟩
  · cases o <;> cases e
theorem Vw.tuple {v : V} {ds : List PD} (q : Vw K r H v (.tuple ds)) : ∃ a ys, v = .ref a ∧ StT K r H a ys ∧ RPs K r H ys ds := by
  rcases q with q | ⟨ns, a, e, _⟩
  · exact q.tuple
  · cases e
theorem Vx.dict {v : V} {ds : List (PD × PD)} (q : Vx K r H v (.dict ds)) : ∃ a ys, v = .ref a ∧ Rd H a (.dK ys) ∧ RPk K r H ys ds := by
  rcases q with q | ⟨o, a, e, rfl, _, z⟩
  · cases q with
    | dct h1 h2 h3 => exact ⟨_, _, rfl, h1, h3⟩
  · cases o with
    | dct es =>
      have e' : ds = es := by cases e; rfl
      subst e'
      obtain ⟨ys, h1, h2⟩ := z
      exact ⟨a, ys, rfl, .inl h1, h2⟩
    | lst es => cases e
theorem Vw.dict {v : V} {ds : List (PD × PD)} (q : Vw K r H v (.dict ds)) : ∃ a ys, v = .ref a ∧ Rd H a (.dK ys) ∧ RPk K r H ys ds := by
  rcases q with q | ⟨ns, a, e, _⟩
  · exact q.dict
  · cases e
theorem Vw.dp {v : V} {d : PD} (q : Vw K r H v d) (c : d.canLay0 = true) : Dp K H v d := by
  rcases q with (q | ⟨o, a, rfl, rfl, _, z⟩) | ⟨ns, a, rfl, rfl, z⟩
  · exact rp_dp d v c q
  · cases o with
    | lst ds =>
      obtain ⟨ys, h1, h2⟩ := z
      exact .lst (.inl (.inl h1)) (rps_dp ds _ (by simpa [PyData.canLay0, Ob.py] using c) h2)
    | dct ds => simp [Ob.py, PyData.canLay0] at c
  · exact .lst z (rps_dp (r := ⟨[], []⟩) _ _ (by simpa [PyData.canLay0] using c) (rps_ints ns))
end
end Mi

/-! Mi: some operations of the model that the layer has no rule of. -/
namespace Mi
open PySem PySem.Spec PyProof.Rows L2
section
variable {X : Cx}
/-! ### lists and tuples of unlike lengths -/
def rLen (K : Frg) (b : Bool) : R2 := fun x y H Q => ∃ l m xs ys, x = .ref l ∧ y = .ref m ∧ ((SqL K H l xs ∧ SqL K H m ys ∧ xs.length ≠ ys.length) ∨ (SqT K H l xs ∧ SqT K H m ys ∧ xs.length ≠ ys.length ∧ (xs = [] ∨ ys = []))) ∧ Q (.bl b) H
theorem op_eqLen (hu : X.A.units < cLine) : OpR X (compareOp .Eq) (rLen X.K false) := by
  intro pins s σ H x y v u Q I rx ry h
  obtain ⟨l, m, xs, ys, rfl, rfl, h, q⟩ := h
  cases rx
  cases ry
  rcases h with ⟨h1, h2, hne⟩ | ⟨h1, h2, hne, he⟩
  · obtain ⟨its, r, p, _⟩ := I.list h1
    obtain ⟨its2, r2, p2, _⟩ := I.list h2
    refine SeqAt.eq_list_lengthsAt (items := its.toArray) (items2 := its2.toArray) ?_ ?_ ?_ hu ⟨.bl false, H, I, rfl, q⟩
    · obtain ⟨o, n, e1, e2, e3, e4⟩ := p
      exact ⟨o, e1, e2, n, e4⟩
    · obtain ⟨o, n, e1, e2, e3, e4⟩ := p2
      exact ⟨o, e1, e2, n, e4⟩
    · rw [bne_iff_ne, List.size_toArray, List.size_toArray, ← r.length, ← r2.length]
      exact hne
  · obtain ⟨its, r, p, _⟩ := I.tuple h1
    obtain ⟨its2, r2, p2, _⟩ := I.tuple h2
    refine SeqAt.eq_tupleAt (items := its.toArray) (items2 := its2.toArray) (e := fun _ => true) p p2 hu (fun j h1 h2 => ?_) ?_
    · exfalso
      rw [List.size_toArray] at h1 h2
      rcases he with he | he
      · rw [← r.length, he] at h1; exact absurd h1 (Nat.not_lt_zero _)
      · rw [← r2.length, he] at h2; exact absurd h2 (Nat.not_lt_zero _)
    · have e : (its.toArray.size == its2.toArray.size) = false := by
        rw [beq_eq_false_iff_ne, List.size_toArray, List.size_toArray, ← r.length, ← r2.length]
        exact hne
      rw [e, Bool.and_false]
      exact ⟨.bl false, H, I, rfl, q⟩
theorem op_neLen (hu : X.A.units < cLine) : OpR X (compareOp .NotEq) (rLen X.K true) := by
  intro pins s σ H x y v u Q I rx ry h
  obtain ⟨l, m, xs, ys, rfl, rfl, h, q⟩ := h
  cases rx
  cases ry
  rcases h with ⟨h1, h2, hne⟩ | ⟨h1, h2, hne, he⟩
  · obtain ⟨its, r, p, _⟩ := I.list h1
    obtain ⟨its2, r2, p2, _⟩ := I.list h2
    refine SeqAt.RcNeAt.lists_lengths (items := its.toArray) (items2 := its2.toArray) ?_ ?_ ?_ hu X.prog X.w X.xe _ ⟨.bl true, H, I, rfl, q⟩
    · obtain ⟨o, n, e1, e2, e3, e4⟩ := p
      exact ⟨o, e1, e2, n, e4⟩
    · obtain ⟨o, n, e1, e2, e3, e4⟩ := p2
      exact ⟨o, e1, e2, n, e4⟩
    · rw [bne_iff_ne, List.size_toArray, List.size_toArray, ← r.length, ← r2.length]
      exact hne
  · obtain ⟨its, r, p, _⟩ := I.tuple h1
    obtain ⟨its2, r2, p2, _⟩ := I.tuple h2
    refine SeqAt.RcNeAt.tuples (items := its.toArray) (items2 := its2.toArray) (e := fun _ => true) p p2 hu (fun j h1 h2 => ?_) X.prog X.w X.xe _ ?_
    · exfalso
      rw [List.size_toArray] at h1 h2
      rcases he with he | he
      · rw [← r.length, he] at h1; exact absurd h1 (Nat.not_lt_zero _)
      · rw [← r2.length, he] at h2; exact absurd h2 (Nat.not_lt_zero _)
    · have e : (its.toArray.size == its2.toArray.size) = false := by
        rw [beq_eq_false_iff_ne, List.size_toArray, List.size_toArray, ← r.length, ← r2.length]
        exact hne
      rw [e, Bool.and_false]
      exact ⟨.bl true, H, I, rfl, q⟩
/-! ### tuple * 1, tuple * 0 -/
theorem tuple_mul1 (l : Addr) (items : Array Value) (n : Nat) (dd : Option Addr) (sl : Array (Option Value)) (u : Tok) :
    Meets (Builtin.«tuple.__mul__» ⟨[.ref l, .int 1 u], []⟩) (fun _ R s => s.heap.get? l = some { cls := .type "tuple", dict := dd, data := .seq items n, slots := sl } ∧ R (.ok (.ret (.ref l))) s) :=
  .of_wp fun prog w A R s h => by
    obtain ⟨hp, g, d, tk, os⟩ := s
    obtain ⟨hl, h⟩ := h
    have f1 := AutoSeq1.idx_int
    have c1 : (items.isEmpty || ((1 : Int) == 1)) = true := by simp
    wp_walk using wpAny_loadPart' hl
    repeat (first
      | (refine wpAny_ite_true (decide_eq_true c1) ?_; wp_walk using wpAny_loadPart' hl)
      | (refine wpAny_ite_true c1 ?_; wp_walk using wpAny_loadPart' hl))
    exact ⟨_, rfl, h⟩
theorem tuple_mul0 (l : Addr) (items : Array Value) (n : Nat) (dd : Option Addr) (sl : Array (Option Value)) (u : Tok) (hi : items.isEmpty = false) :
    Meets (Builtin.«tuple.__mul__» ⟨[.ref l, .int 0 u], []⟩) (fun _ R s => s.heap.get? l = some { cls := .type "tuple", dict := dd, data := .seq items n, slots := sl } ∧
      R (.ok (.ret (Value.ref s.heap.objs.size))) { s with heap := s.heap.push { cls := Value.type "tuple", data := Data.seq #[] }, toks := s.toks }) :=
  .of_wp fun prog w A R s h => by
    obtain ⟨hp, g, d, tk, os⟩ := s
    obtain ⟨hl, h⟩ := h
    have f1 := AutoSeq1.idx_int
    have c1 : (items.isEmpty || ((0 : Int) == 1)) = false := by rw [hi]; rfl
    have c2 : (decide ((0 : Int) ≤ 0) || items.isEmpty) = true := rfl
    wp_walk using wpAny_loadPart' hl
    repeat (first
      | (refine wpAny_ite_false (decide_eq_false (by rw [c1]; exact Bool.false_ne_true)) ?_; wp_walk using wpAny_loadPart' hl)
      | (refine wpAny_ite_true (decide_eq_true c2) ?_; wp_walk using wpAny_loadPart' hl))
    exact ⟨_, rfl, h⟩
def rRep1 (K : Frg) : R2 := fun x y H Q => ∃ l xs, x = .ref l ∧ y = .int 1 ∧ SqT K H l xs ∧ Q x H
theorem op_rep1 : OpR X (binaryOp .Mult) (rRep1 X.K) := by
  intro pins s σ H x y v u Q I rx ry h
  obtain ⟨l, xs, rfl, rfl, hT, q⟩ := h
  cases rx
  obtain ⟨t, rfl⟩ := ry
  obtain ⟨its, r, ⟨⟨cls, dd, data, sl⟩, ho, hc, n, hd⟩, hs⟩ := I.tuple hT
  simp only at hc hd
  subst hc hd
  exact wpAny_binaryOp_repeat_ref (T := "tuple") (U := "int") (by decide) ⟨_, ho, rfl⟩ (fun s' => typeIs_int s' 1 t) noFill_tuple_mul F.fills_int_mul F.slot_int_rmul repeat_tuple F.slot_int_index.lookup
    (call_meets F.slot_int_rmul (typeIs_int s 1 t) F.entry_int_rmul (F.args_int_rmul_2 _ _) (int_rmul_tuple 1 t l its.toArray n dd sl)
      ⟨ho, rfl, ⟨_, ho, rfl⟩, call_meets F.slot_tuple_mul ⟨_, ho, rfl⟩ F.entry_tuple_mul (F.args_tuple_mul_2 _ _) (tuple_mul1 l its.toArray n dd sl t) ⟨ho, ⟨.ref l, H, I, rfl, q⟩⟩⟩)
def rRep0 (K : Frg) : R2 := fun x y H Q => ∃ l xs, x = .ref l ∧ y = .int 0 ∧ SqT K H l xs ∧ xs ≠ [] ∧ ∀ p, H p = none → Q (.ref p) (upd H p (.tup []))
theorem op_rep0 : OpR X (binaryOp .Mult) (rRep0 X.K) := by
  intro pins s σ H x y v u Q I rx ry h
  obtain ⟨l, xs, rfl, rfl, hT, hne, q⟩ := h
  cases rx
  obtain ⟨t, rfl⟩ := ry
  obtain ⟨its, r, ⟨⟨cls, dd, data, sl⟩, ho, hc, n, hd⟩, hs⟩ := I.tuple hT
  simp only at hc hd
  subst hc hd
  have hi : its.toArray.isEmpty = false := by
    cases its with
    | nil => exact absurd (List.eq_nil_of_length_eq_zero (by rw [r.length]; rfl)) hne
    | cons a b => rfl
  refine wpAny_binaryOp_repeat_ref (T := "tuple") (U := "int") (by decide) ⟨_, ho, rfl⟩ (fun s' => typeIs_int s' 0 t) noFill_tuple_mul F.fills_int_mul F.slot_int_rmul repeat_tuple F.slot_int_index.lookup
    (call_meets F.slot_int_rmul (typeIs_int s 0 t) F.entry_int_rmul (F.args_int_rmul_2 _ _) (int_rmul_tuple 0 t l its.toArray n dd sl)
      ⟨ho, rfl, ⟨_, ho, rfl⟩, call_meets F.slot_tuple_mul ⟨_, ho, rfl⟩ F.entry_tuple_mul (F.args_tuple_mul_2 _ _) (tuple_mul0 l its.toArray n dd sl t hi) ⟨ho, ?_⟩⟩)
  refine ⟨.ref s.heap.objs.size, _, I.laid (t' := s.toks) (o := .tup []) (fun b ob q => Heap.get?_push_of_some _ q) (Nat.le_refl _) ?_, rfl, q _ (I.hok.fresh (Nat.le_refl _))⟩
  exact ⟨Nat.zero_le _, [], .nil, IsTup.new _ _⟩
/-! ### l.extend(tuple) -/
theorem extend_tupW (l : Addr) (items : Array Value) (n : Nat) (b : Addr) (items2 : Array Value) (n2 : Nat) (dd2 : Option Addr) (sl2 : Array (Option Value)) (hs0 : ¬(!items.isEmpty && Builtin.List.listTooLong (items.size + items2.size)) = true) (hs1 : items.size ≤ sizeLine) (hs2 : items.size + items2.size ≤ sizeLine + 1) :
    Meets (Builtin.«list.extend» ⟨[.ref l, .ref b], []⟩) (fun _ R s => s.heap.get? l = some { cls := .type "list", dict := none, data := .seq items n, slots := #[] } ∧ s.heap.get? b = some { cls := .type "tuple", dict := dd2, data := .seq items2 n2, slots := sl2 } ∧ R (.ok (.ret Value.none)) { s with heap := s.heap.update l (Obj.mapSeq fun x => x ++ items2), toks := s.toks }) :=
  .of_wp fun prog w A R s h => by
    obtain ⟨hp, g, d, tk, os⟩ := s
    obtain ⟨hl, hb, h⟩ := h
    have f1 := AutoSeq1.idx_int
    have f2 := AutoSeq1.sub_tuple_tuple
    have f3 := AutoSeq1.sub_list_list
    have f4 := AutoSeq1.sub_tuple_list
    have f5 := AutoSeq1.sub_list_tuple
    have hz' : (items ++ items2).size ≤ sizeLine + 1 := by rw [Array.size_append]; exact hs2
    wp_walk using (wpAny_updateSeq hl rfl (hz := hs1) (_hz' := hz')), wpAny_loadPart' hl, wpAny_loadPart' hb
    exact ⟨_, rfl, h⟩
def rExtendT (K : Frg) : V → List V → Hp → VK → Prop := fun x vs H Q => ∃ l b xs zs, x = .ref l ∧ vs = [.ref b] ∧ H l = some (.lst xs) ∧ SqT K H b zs ∧ xs.length + zs.length ≤ sizeLine ∧ Q .non (upd H l (.lst (xs ++ zs)))
theorem mt_extendT : MtM X "list.extend" (rExtendT X.K) := by
  intro pins s σ H x vs v us Q I rx rv h
  obtain ⟨l, b, xs, zs, rfl, rfl, hH, hB, hz, q⟩ := h
  cases rx
  obtain ⟨u, rfl, ru⟩ := rv.one
  cases ru
  obtain ⟨z, its, n, r, hl, e⟩ := I.lstM hH
  obtain ⟨its2, r2, ⟨⟨cls, dd, data, sl⟩, ho, hc, n2, hd⟩, hs⟩ := I.tuple hB
  simp only at hc hd
  subst hc hd
  have hl2 := r2.length
  have hsz : its.toArray.size + its2.toArray.size ≤ sizeLine := by rw [List.size_toArray, List.size_toArray]; omega
  have hlong : ¬ (!its.toArray.isEmpty && Builtin.List.listTooLong (its.toArray.size + its2.toArray.size)) = true := by
    rw [notLongL hsz, Bool.and_false]
    exact Bool.false_ne_true
  refine call_meets F.slot_list_extend ⟨_, e, rfl⟩ F.entry_list_extend (F.args_list_extend_2 _ _)
    (extend_tupW l its.toArray n b its2.toArray n2 dd sl hlong (by rw [List.size_toArray]; omega) (by omega)) ⟨e, ho, ?_⟩
  refine ⟨.non, _, I.lset (its' := its ++ its2) hH e (by simp) (r.append r2) ?_, rfl, q⟩
  rw [List.length_append]
  omega
end
end Mi

/-! Mi: the promise of a def where no text of an object is being made (nothing guards). -/
namespace Mi
open PySem PySem.Spec PyProof.Rows L2
/-- the layer's promise, under no guard -/
structure FnG (P : Program) (w : World) (K : Frg) (mg : Str → Option Value) (base : Heap) (k : Nat) (f : Addr) (fd : FuncData) (ps : List Str) (sp : Sp) : Prop where
  len : ∀ vs H Q E, sp vs H Q E → vs.length = ps.length
  run : ∀ {A : Around} {outer : List Env} {s : Shared} {H : Hp} {args : Args} {us : List Value} {vs : List V} {Q : VK} {E : XK}, A.guards = some [] → Room k A → Env0 P w K mg base A outer s H → BindsTo s fd args (ps.zip us) → Vals vs us → sp vs H Q E → codeAny (model P w) A (.call (.ref f) args) (CR (L2.CX P w) outer P w H s Q E) s
section
variable {X : Cx} {W : WX} {k : Nat} {f : Addr} {fd : FuncData} {ps : List Str} {sp : Sp} {x : Str} {p pos : Pos} {e : Expr} {es : List Expr} {t : TA}
theorem run_fnG {pins : List (Addr × Obj)} {σ : L2.St} {H : Hp} {s : Shared} {Q : VK} {us : List Value} {vs : List V} (F : FnG X.prog X.w X.K X.mg X.base k f fd ps sp) (hq : X.A.guards = some []) (hr : Room k X.A) (hb : Binds X.K fd ps []) (tk : Takes X W)
    (I : Inv X pins σ H s) (rv : Vals vs us) (h : sp vs H Q (WE W σ)) : wpAny (model X.prog X.w) X.A (call (.ref f) us) (EP X pins σ Q) X.xe s := by
  have hl : us.length = ps.length := rv.length ▸ F.len _ _ _ _ h
  have hbb : BindsTo s fd ⟨us, []⟩ (ps.zip us) := by
    have z := hb s us I.kIn (by simpa using hl)
    simpa using z
  refine wpAny_call (codeAny_mono (F.run (us := us) hq hr I.env0 hbb rv h) ?_)
  intro r s' z
  match r, z with
  | .error e, z => exact passAt tk σ pins H s e s' I z
  | .ok (.ret u), z => exact I.after z
theorem pe_callG (F : FnG X.prog X.w X.K X.mg X.base k f fd ps sp) (hq : X.A.guards = some []) (hr : Room k X.A) (hg : Gl X x) (hm : X.mg x = some (.ref f)) (hk : PySem.W.keepIn X.K (.ref f) = true) (hb : Binds X.K fd ps []) (tk : Takes X W)
    (ha : PA X (e :: es) t) (hdb : (x == ("__debug__" : Str)) = false) (he : starEach (e :: es) X.env = (false, eval e X.env) :: starEach es X.env) (hpl : (backTo pos (starEach es X.env)).any (·.1) = false) :
    PE X (.Call (.Name x p) (e :: es) [] pos) (tCallS sp (WE W) t) := by
  constructor
  intro pins s σ H Q I h
  apply wpAny_Call_Name_kw
  apply ld_glob I hg hm (hd := hdb)
  refine PySem.W.callWith_K (h₀ := X.base) I.ok.mod.kin hk (thn (ha.run pos pins s σ H _ I h) ?_) he hpl
  rintro us s1 ⟨vs, H1, J, rv, q⟩
  exact ⟨J.kIn, run_fnG F hq hr hb tk J rv q⟩
end
section
variable {P : Program} {w : World} {K : Frg} {mg : Str → Option Value} {base : Heap}
/-- a def by its body -/
theorem fnG_of {x qual : Str} {st : Stmt} {f : Addr} {fd : FuncData} {N ps : List Str} {k : Nat} {sp : Sp} (F : L2.Fun K x qual st f fd) (S : FnScope N ps (defScope st)) (len : ∀ vs H Q E, sp vs H Q E → vs.length = ps.length)
    (hbody : ∀ (cdv : Value) (A : Around) (outer : List Env) (s : Shared) (H : Hp) (vs : List V) (Q : VK) (E : XK), A.guards = some [] → Room k (A.deeper (envOfC qual (defScope st) s.heap.objs.size f cdv)) → sp vs H Q E →
      ∃ t, PSs (cxOf (L2.CX P w) P w K mg base N qual (defScope st) f cdv A outer s H E) (defBody st) t ∧ t { nx := fun _ H' => Q .non H', rt := Q } (L2.start N vs) H) : FnG P w K mg base (k + 1) f fd ps sp := by
  obtain ⟨oc, od, kV, doc, pm, an, cdv, ct, osl, rfl, lk, hcd⟩ := F.ex
  refine ⟨len, fun {A outer s H args us vs Q E} hq hr e0 hb rv h => ?_⟩
  refine StX.run_bnd (G := fun vs' H' => vs' = vs ∧ H' = H) lk hcd S hr e0 (fun A' Ex Q' z => ?_) ?_
  · exact hb _ _ _ _ (z s H vs us e0 .refl rfl (fun _ _ z => z) rv (len _ _ _ _ h) ⟨rfl, rfl⟩)
  · rintro s2 H2 vs' ⟨rfl, rfl⟩ hr2
    exact hbody cdv A outer s2 H2 vs' Q E hq hr2 h
end
/-! ### the end -/
section
variable {P : Program} {w : World} {K : Frg} {mg mb : Str → Option Value} {k : Nat} {fa a : Addr} {fd : FuncData} {x : Str} {sp : Sp} {s : Shared} {vs : List Value} {ns : List Int}
/-- from a heap in which the script alone may be tracked -/
theorem end_core (KX : K.In s.heap) (hns : s.heap.Ns mainGlobals mg) (hb : s.heap.Ns builtinsNs mb) (hbb : ∀ x : Str, x ≠ "__name__" → mb x = bootBuiltins x) (hlim : s.heap.NoLimit) (hg : s.gens = #[])
    (ha : s.heap.get? a = some { cls := .type "list", data := .seq vs.toArray }) (hr : Room k callerA)
    (F : ∀ base : Heap, K.In base → base.Ns mainGlobals mg → FnG P w K mg base k fa fd [x] sp) (hbind : ∀ (s : Shared) (u : Value), BindsTo s fd ⟨[u], []⟩ [(x, u)]) {H : Hp} (hO : Only H) (hok : HOk P w H s.heap) (hA : ∀ b, H b ≠ none → b = a) (hK : H a ≠ none → K.lookup a = none)
    (h : sp [.ref a] H (fun v _ => v = .bl true) fun _ _ _ => False) :
    codeAny (model P w) callerA (.call (.ref fa) ⟨[.ref a], []⟩) (fun r s' => r = .ok (.ret (.bool true)) ∧ OldK s.heap s'.heap ∧ s'.os = s.os ∧ AllBare s'.gens) s := by
  have dicts : ∀ (b : Addr) (o : Obj) (es : Array DictEntry) (ep : Nat), s.heap.get? b = some o → o.data = .dict es ep → H b = none := by
    intro b o es ep e d
    refine Classical.byContradiction fun z => ?_
    rw [hA b z, ha] at e
    cases e
    cases d
  have nsK : ∀ (b : Addr) (m : Str → Option Value), s.heap.Ns b m → (hidT s.heap H).Ns b m := fun b m ⟨o, es, ep, e, d, z⟩ => ⟨o, es, ep, hidT_get e (dicts b o es ep e d), d, z⟩
  have inK : K.In (hidT s.heap H) := by
    intro b o e
    refine hidT_get (KX b o e) (Classical.byContradiction fun z => ?_)
    rw [hA b z, hK (by rw [← hA b z]; exact z)] at e
    cases e
  obtain ⟨mc, l1, l2⟩ := hlim
  have M : Mod K mg (hidT s.heap H) := ⟨inK, nsK _ _ hns, ⟨mb, nsK _ _ hb, hbb⟩, mc, nsK _ _ l1, l2⟩
  have e0 : Env0 P w K mg (hidT s.heap H) callerA [] s H := { frames := rfl, mod := M, bs := fun b o e => of_hidT e, bsz := Nat.le_of_eq (hidT_size _ _), funs := trivial, frf := fun b z => (List.not_mem_nil z).elim, hok := hok, bare := .of_eq hg }
  refine codeAny_mono ((F _ inK (nsK _ _ hns)).run (us := [.ref a]) (vs := [.ref a]) rfl hr e0 (hbind s (.ref a)) (.cons rfl .nil) h) ?_
  intro r s' z
  match r, z with
  | .error e, z =>
    obtain ⟨_, _, _, _, _, _, _, _, _, _, _, _, q⟩ := z
    exact q.elim
  | .ok (.ret u), z =>
    obtain ⟨v, H', os, bare, un, hok', rv, q⟩ := z
    have q : v = .bl true := q
    subst q
    have rv : u = .bool true := rv
    subst rv
    refine ⟨rfl, OldK.of_keep fun b o e => ?_, os, bare⟩
    cases hb' : H b with
    | none => exact un.keep b o e hb' (fun z => List.not_mem_nil z) (fun z => List.not_mem_nil z)
    | some u =>
      rcases hO b with z | ⟨ob, xs, z⟩
      · rw [hb'] at z; cases z
      · have e1 := (hok b _ z).1
        have e2 := (hok' b _ (un.frzs b ob _ z)).1
        rw [e] at e1
        cases e1
        exact e2
theorem end_call (KX : K.In s.heap) (hns : s.heap.Ns mainGlobals mg) (hb : s.heap.Ns builtinsNs mb) (hbb : ∀ x : Str, x ≠ "__name__" → mb x = bootBuiltins x) (hlim : s.heap.NoLimit) (hg : s.gens = #[])
    (ha : s.heap.get? a = some { cls := .type "list", data := .seq vs.toArray }) (hi : IntsAre vs ns) (hl : ns.length ≤ sizeLine) (hr : Room k callerA)
    (F : ∀ base : Heap, K.In base → base.Ns mainGlobals mg → FnG P w K mg base k fa fd [x] sp) (hbind : ∀ (s : Shared) (u : Value), BindsTo s fd ⟨[u], []⟩ [(x, u)])
    (hsp : ∀ H : Hp, Only H → SqL K H a (ns.map V.int) → sp [.ref a] H (fun v _ => v = .bl true) fun _ _ _ => False) :
    codeAny (model P w) callerA (.call (.ref fa) ⟨[.ref a], []⟩) (fun r s' => r = .ok (.ret (.bool true)) ∧ OldK s.heap s'.heap ∧ s'.os = s.os ∧ AllBare s'.gens) s := by
  have rv := vals_ints hi
  cases hk : K.lookup a with
  | some o =>
    have e := KX a o hk
    rw [ha] at e
    cases e
    have O : Only (fun _ => none) := fun _ => .inl rfl
    refine end_core KX hns hb hbb hlim hg ha hr F hbind O (fun b u z => ?_) (fun b z => absurd rfl z) (fun z => absurd rfl z) (hsp _ O (.inr ⟨_, vs.toArray, _, hk, rfl, rfl, rfl, ?_, by simpa using rv⟩))
    · cases z
    · rw [List.size_toArray, hi.length]
      exact hl
  | none =>
    have O : Only (fun b => if b = a then some (.frz { cls := .type "list", data := .seq vs.toArray } (.lst (ns.map V.int))) else none) := by
      intro b
      by_cases hb : b = a
      · exact .inr ⟨_, _, if_pos hb⟩
      · exact .inl (if_neg hb)
    refine end_core KX hns hb hbb hlim hg ha hr F hbind O (fun b u z => ?_) (fun b z => ?_) (fun _ => hk) (hsp _ O (.inl (.inr ⟨_, if_pos rfl⟩)))
    · have z : (if b = a then some _ else none) = some u := z
      split at z
      · rename_i hb
        cases z
        subst hb
        exact ⟨ha, by rw [List.length_map]; exact hl, vs, _, rv, ha⟩
      · cases z
    · refine Classical.byContradiction fun hb => z (if_neg hb)
end
/-- the goal behind the head, from the law's promise -/
theorem walkG_of {l : PySem.W.OpenLaw} {n k : Nat} {q : Program} {loose : List Str} {XP : (Str → Option Value) → Heap → Prop} {YP : World → Heap → Prop} {d : DefRec} {K : Params → Frg} {sp : World → Sp} {x : Str}
    (hn : l.most = some n) (hn2 : n ≤ sizeLine) (hdf : d.params.defaults = []) (hr : Room k callerA) (hY : ∀ (w : World) (h : Heap), YP w h → (K w.params).In h)
    (F : ∀ (w : World) (mg : Str → Option Value) (fa : Addr) (h : Heap), (K w.params).In h → h.Ns mainGlobals mg → mg d.name = some (.ref fa) →
      ∃ fd : FuncData, (∀ (s : Shared) (u : Value), BindsTo s fd ⟨[u], []⟩ [(x, u)]) ∧ ∀ base : Heap, (K w.params).In base → base.Ns mainGlobals mg → FnG l.prog w (K w.params) mg base k fa fd [x] (sp w))
    (hsp : ∀ (w : World) (H : Hp) (a : Addr) (ns : List Int), ns.length ≤ n → Only H → SqL (K w.params) H a (ns.map V.int) → sp w [.ref a] H (fun v _ => v = .bl true) fun _ _ _ => False) :
    PySem.W.WalkO q loose XP YP l.row.toRowW d [] (fun f vs => PySem.call f vs) := by
  apply Att.attach_call hn hdf
  intro w s₀ s₁ mg mb fa o pm cd doc a vs ns G Y ho hd hcd hmg hobj hints hlen hg
  obtain ⟨fd, hb, hF⟩ := F w mg fa _ (hY w _ Y) G.T.g hmg
  exact end_call (hY w _ Y) G.T.g G.T.b G.T.builtins G.T.nolimit hg hobj hints (Nat.le_trans hlen hn2) hr hF hb fun H hO hS => hsp w H a ns hlen hO hS
/-- .. the promise hangs on the written part -/
theorem walkG_ofK {l : PySem.W.OpenLaw} {n k : Nat} {q : Program} {loose : List Str} {XP : (Str → Option Value) → Heap → Prop} {YP : World → Heap → Prop} {d : DefRec} {K : Params → Frg} {sp : Frg → Sp} {x : Str}
    (hn : l.most = some n) (hn2 : n ≤ sizeLine) (hdf : d.params.defaults = []) (hr : Room k callerA) (hY : ∀ (w : World) (h : Heap), YP w h → (K w.params).In h)
    (F : ∀ (w : World) (mg : Str → Option Value) (fa : Addr) (h : Heap), (K w.params).In h → h.Ns mainGlobals mg → mg d.name = some (.ref fa) →
      ∃ fd : FuncData, (∀ (s : Shared) (u : Value), BindsTo s fd ⟨[u], []⟩ [(x, u)]) ∧ ∀ base : Heap, (K w.params).In base → base.Ns mainGlobals mg → FnG l.prog w (K w.params) mg base k fa fd [x] (sp (K w.params)))
    (hsp : ∀ (K : Frg) (H : Hp) (a : Addr) (ns : List Int), ns.length ≤ n → Only H → SqL K H a (ns.map V.int) → sp K [.ref a] H (fun v _ => v = .bl true) fun _ _ _ => False) :
    PySem.W.WalkO q loose XP YP l.row.toRowW d [] (fun f vs => PySem.call f vs) :=
  walkG_of (K := K) (sp := fun w => sp (K w.params)) hn hn2 hdf hr hY F fun w H a ns h1 h2 h3 => hsp (K w.params) H a ns h1 h2 h3
end Mi

/-! Mi: own exceptions over any built-in class, with an __init__ of one field. -/
namespace Mi
open PySem PySem.Spec PyProof.Rows L2
/-- what the written part says of such a class -/
structure OxC (K : Frg) (C : Addr) (B newId initId : String) (bm : List Value) : Prop where
  fact : ExcBaseFacts B newId initId bm
  st : StoreFacts B bm "object.__setattr__" "object"
  cls : ∃ nm q N bs sn sub ab col dd k0 k1 k2 k3 k5, K.lookup C = some (excClassObj nm q C N bs bm true sn sub ab col dd k0 k1 k2 k3 k5 newId)
  sa : PySem.W.findIn K (.ref C) "__setattr__" = some (some (.builtin "object.__setattr__"))
  exC : PySem.W.subIn K (.ref C) (.type "BaseException") = some true
  tyC : PySem.W.typeIn K (.ref C) = some (.type "type")
  kC : PySem.W.keepIn K (.ref C) = true
section
open PySem.Builtin PySem.Builtin.ObjectAttr PySem.HandSPX
variable {prog : Program} {w : World} {A : Around} {R : Result → Shared → Prop} {hp : Heap} {g : Array GenState} {d : Drawn} {t : Nat} {os : OsState}
/-- the first field of an exception of such a class -/
theorem osaG {K : Frg} {name : Str} {tk : Tok} {v : Value} {x C : Addr} {fv : Array Value} {cd : ClassData} {B : String} {bm : List Value} (sf : StoreFacts B bm "object.__setattr__" "object")
    (kin : K.In hp) (hx : hp.get? x = some { cls := .ref C, data := .fields fv }) (hcd : PySem.W.clsIn K C = some cd) (hm : cd.mro = .ref C :: bm) (hh : cd.hasDict = true) (ha : PySem.W.findIn K (.ref C) name = some none)
    (hq : ∀ h' tk' dx, (∀ b o, b ≠ x → hp.get? b = some o → h'.get? b = some o) → hp.objs.size ≤ dx → dx ≠ x → h'.get? x = some { cls := .ref C, dict := some dx, data := .fields fv } →
      h'.Ns1 dx (fun y => if y = name then some v else none) → R (.ok (.ret .none)) ⟨h', g, d, tk', os⟩) :
    codeAny (model prog w) A (.call (.builtin "object.__setattr__") ⟨[.ref x, .str name tk, v], []⟩) R ⟨hp, g, d, t, os⟩ := by
  have ins : PySem.W.InstAt hp x { cls := .ref C, data := .fields fv } C none := ⟨hx, rfl, rfl, trivial⟩
  have so := F.store_object
  have hob : cd.mro.contains (.type "object") = true := by rw [hm, List.contains_cons, sf.hasOwner, Bool.or_true]
  have hxs : x ≠ hp.objs.size := Nat.ne_of_lt (Heap.lt_size hx)
  have isO : PySem.W.Looks (model prog w) hp (isInstance (.ref x) (.type "object")) true := ins.type.andThen (PySem.W.looks_mroIn kin (by unfold PySem.W.mroIn; rw [hcd, Option.bind_some, if_neg (by rw [hm]; exact Bool.false_ne_true), hob]))
  refine codeAny_call_builtin so.slot.plain so.entry (@PySem.W.check_slot (model prog w) _ _ ⟨hp, g, d, t, os⟩ "object.__setattr__" "object" "__setattr__" (.ref x) [.str name tk, v] [] _ so.kind so.split isO (so.args (.ref x) (.str name tk) v) ?_)
  have lm : PySem.W.Looks (model prog w) hp (mroOf (.ref C)) cd.mro := (PySem.W.looks_clsIn kin hcd).andThen .now
  have l3 : PySem.W.Looks (model prog w) hp (storeTaker? none) none := .now
  have lc : PySem.W.Looks (model prog w) hp (classData C) cd := PySem.W.looks_clsIn kin hcd
  rw [PySem.W.osa_eq, refuse_eq]
  refine wpAny_bind (wpAny_bind (ins.type.at (wpAny_bind (lm.at ?_))))
  rw [hm, refuseLoop_ref, sf.passes]
  refine wpAny_pure (wpAny_bind (ins.type.at (wpAny_bind ((PySem.W.looks_findIn kin ha).at (wpAny_bind (l3.at ?_))))))
  show wpAny _ _ (storeInOwnDict (.ref x) (.ref C) (.str name tk) name v false) _ _ _
  obtain ⟨nm, bs, mro, ns, qn, hd, sn, sb, ab, col, del⟩ := cd
  dsimp only at hh
  subst hh
  unfold storeInOwnDict ownDictForStores
  repeat (first | with_reducible refine store_in_new ?_ ?_ | with_reducible refine wpAny_loadPart_at hx ?_ | with_reducible refine lc.at ?_ | wp_step)
  · exact ⟨_, #[], _, (Heap.get?_update_ne _ _ _ _ hxs.symm).trans (Heap.get?_push_at rfl rfl), rfl, fun e he => absurd he (by simp), fun _ => rfl⟩
  · intro h' tk' hn' hs
    have hx1 : (hp.push { cls := .type "dict", data := .dict #[] }).get? x = some { cls := .ref C, data := .fields fv } := Heap.get?_push_of_some _ hx
    refine hq h' tk' hp.objs.size (fun b o hb ho => ?_) (Nat.le_refl _) hxs.symm ?_ hn'
    · exact (hs.2 b (Nat.ne_of_lt (Heap.lt_size ho))).trans ((Heap.get?_update_ne _ _ _ _ hb).trans (Heap.get?_push_of_some _ ho))
    · exact (hs.2 x hxs).trans (Heap.get?_update_self _ hx1 rfl)
end
section
variable {X : Cx} {pins : List (Addr × Obj)} {σ : L2.St} {H : Hp} {s : Shared} {a C dx : Addr} {f : Str} {y : V} {u : Value} {Q : Unit → Shared → Prop} {E : Value → Shared → Prop} {A : Around} {B newId initId : String} {bm : List Value}
/-- self.f = y -/
theorem ostG (T : OxC X.K C B newId initId bm) (I : Inv X pins σ H s) (e : H a = some (exo a C none)) (hno : PySem.W.findIn X.K (.ref C) f = some none) (ry : RelV y u)
    (h : ∀ dx s', H dx = none → dx ≠ a → Inv X pins σ (upd (upd H dx (exd dx [(f, y)])) a (exo a C (some dx))) s' → Q () s') : wpAny (model X.prog X.w) A (setAttr (.ref a) f u) Q E s := by
  obtain ⟨nm, q, N, bs, sn, sub, ab, col, dd, k0, k1, k2, k3, k5, hC⟩ := T.cls
  have hcl : PySem.W.clsIn X.K C = some { name := nm, bases := bs, mro := .ref C :: bm, ns := N, qualname := q, hasDict := true, slotNames := sn, subclasses := sub, abstract := ab, collection := col, hasDel := false } := by unfold PySem.W.clsIn; rw [hC] <;> rfl
  obtain ⟨t1, ho⟩ := exo_at I.hok e
  obtain ⟨hp, g, d, t, os⟩ := s
  refine PySem.W.set_plain I.kIn (ox := { cls := .ref C, dict := none, data := .fields #[.ref t1, .none, .none, .none, .bool false, .none] }) (od := none) ⟨ho, rfl, rfl, trivial⟩ T.sa ?_
  refine osaG T.st I.kIn ho hcl rfl rfl hno (fun h' tk' dx k dn dne hx hn => ?_)
  have hnd : H dx = none := I.hok.fresh dn
  have nd : ∀ {b : Addr} {o : Obj}, hp.get? b = some o → b ≠ dx := fun {b o} q => Nat.ne_of_lt (Nat.lt_of_lt_of_le (Heap.lt_size q) dn)
  have na : ∀ {b : Addr}, H b = none → b ≠ a := fun {b} n z => by
    rw [z, e] at n
    cases n
  have un : Un X.fs [] H (upd (upd H dx (exd dx [(f, y)])) a (exo a C (some dx))) hp h' := {
    keep := fun b o q n _ _ => k b o (na n) q
    slot := fun b o q n _ _ => ⟨o.slots, k b o (na n) q⟩
    free := fun b o q n _ => by rw [upd_ne (na n), upd_ne (nd q)]; exact n
    there := fun b o q _ => by
      by_cases hb : b = a
      · exact ⟨_, by rw [hb]; exact hx⟩
      · exact ⟨o, k b o hb q⟩
    tups := fun b xs q => by rw [upd_ne (at_ne e q exo_tup), upd_ne (ne_of_none q hnd)]; exact q
    frzs := fun b o v q => by rw [upd_ne (at_ne e q exo_frz), upd_ne (ne_of_none q hnd)]; exact q
    tbls := fun b ps q => ⟨#[], by rw [upd_ne (at_ne e q exo_tbl), upd_ne (ne_of_none q hnd), q]; simp⟩ }
  refine h dx _ hnd dne (I.un (t' := tk') un fun b o q => ?_)
  by_cases hb : b = a
  · subst hb
    rw [upd_same] at q
    cases q
    exact exo_ok hx
  · rw [upd_ne hb] at q
    by_cases hd : b = dx
    · subst hd
      rw [upd_same] at q
      cases q
      exact exd_ok hn (relO_put (fs := []) ry fun g => True.intro)
    · rw [upd_ne hd] at q
      refine (I.hok b o q).stay (fun c v hc z => k c v ?_ z) (fun c hc => by rw [upd_ne (at_ne e hc exo_own), upd_ne (ne_of_none hc hnd)]; exact hc) (fun c xs hc => by rw [upd_ne (at_ne e hc exo_tup), upd_ne (ne_of_none hc hnd)]; exact hc)
      rcases hc with hc | hc
      · rw [hc]
        exact hb
      · exact at_ne e hc exo_own
/-- B.__init__(self, ..): nothing of it is told -/
theorem initG {us : List Value} {Q : Value → Shared → Prop} (T : OxC X.K C B newId initId bm) (I : Inv X pins σ H s) (e : H a = some (exo a C none)) (hl : us.length ≤ sizeLine) (h : ∀ s', Inv X pins σ H s' → Q .none s') :
    wpAny (model X.prog X.w) A (call (.builtin initId) (.ref a :: us)) Q E s := by
  obtain ⟨nm, q, N, bs, sn, sub, ab, col, dd, k0, k1, k2, k3, k5, hC⟩ := T.cls
  obtain ⟨t1, ho⟩ := exo_at I.hok e
  obtain ⟨hp, g, d, t, os⟩ := s
  refine wpAny_call (PySem.HandSPX.init_base T.fact (fun _ => rfl) (I.kIn _ _ hC) ho hl fun h' t2 k hx => ?_)
  have J := I.write (t' := t) (x := a) (e := a) (o := exo a C none) (by rw [e]; exact True.intro) (.inl rfl) k ⟨_, hx⟩ (exo_ok hx)
  have eu : upd H a (exo a C none) = H := by
    funext b
    by_cases hb : b = a
    · rw [hb, upd_same, e]
    · rw [upd_ne hb]
  rw [eu] at J
  exact h _ J
end
/-! ### the __init__ -/
/-- what holds of the built-in class's name -/
structure BsC (K : Frg) (B initId : String) : Prop where
  boot : bootBuiltins (Str.ofString B) = some (.type B)
  ty : typeOf (.type B) = pure (.type "type")
  stub : Manifest.isStub B = false
  ini : PySem.W.findCls K (.type B) (.type "type") "__init__" = some (.val (.builtin initId))
  hand : PySem.W.handedIn (.builtin initId) = true
  nm : Str.ofString B ≠ "__name__"
  db : (Str.ofString B == ("__debug__" : Str)) = false
def spI (C : Addr) (f : Str) : Sp := fun vs H Q _ => ∃ a v, vs = [.ref a, v] ∧ H a = some (exo a C none) ∧ ∀ dx, H dx = none → dx ≠ a → Q .non (upd (upd H dx (exd dx [(f, v)])) a (exo a C (some dx)))
section
variable {X : Cx} {C : Addr} {f : Str} {B newId initId : String} {bm : List Value} {p p1 p2 p3 p4 p5 p6 pos pos2 : Pos} {m : Str} {j : Nat}
theorem pe_initG {pl : Sem Bool} {e : Expr} {es : List Expr} {ta : TA} (T : OxC X.K C B newId initId bm) (b : BsC X.K B initId) (hg : Gl X (Str.ofString B)) (hm : X.mg (Str.ofString B) = none) (ha : PA X (e :: es) ta)
    (hc : eval (.Call (.Attribute (.Name (Str.ofString B) p1) "__init__" p2) (e :: es) [] pos) X.env = (do
      let ov ← eval (.Name (Str.ofString B) p1) X.env
      standAt p2.atName
      let (f, first) ← holding [ov] (getMethod ov "__init__" pl)
      callWith pos f first (backTo pos (starEach (e :: es) X.env)) (backToKw pos (keywordEach [] X.env))))
    (he : starEach (e :: es) X.env = (false, eval e X.env) :: starEach es X.env) (hpl : (backTo pos (starEach es X.env)).any (·.1) = false) :
    PE X (.Call (.Attribute (.Name (Str.ofString B) p1) "__init__" p2) (e :: es) [] pos) (fun σ H Q => ta σ H fun vs H1 => ∃ (a : Addr) (ws : List V), vs = .ref a :: ws ∧ ws.length ≤ 1000 ∧ H1 a = some (exo a C none) ∧ Q .non H1) := by
  constructor
  intro pins s σ H Q I h
  refine PySem.W.methodCall_KW (ld_blt I hg hm b.boot ?_ b.nm b.db) hc
  obtain ⟨mm, fr⟩ := I.fr
  refine PySem.W.method_type fr I.ok.mod.kin b.ty b.stub b.ini b.hand ?_
  show wpAny _ _ (callWith pos (Value.builtin initId) [] (backTo pos (starEach (e :: es) X.env)) []) _ _ _
  refine PyProof.Rows.callWith_method1 (thn (ha.run pos pins _ σ H _ (I.tok _) h) ?_) he hpl
  rintro us s1 ⟨vs, H1, J, rv, a, ws, ev, hl, ea, q⟩
  subst ev
  cases rv with
  | @cons _ u0 _ ur ra rws =>
    obtain rfl : u0 = Value.ref a := ra
    refine initG T J ea ?_ fun s' J' => ⟨.non, H1, J', rfl, q⟩
    rw [← Paired.length rws, sizeLine_eq]
    omega
theorem ps_ostG {o e : Expr} {to te : TE} (T : OxC X.K C B newId initId bm) (hno : PySem.W.findIn X.K (.ref C) f = some none) (ho : PE X o to) (he : PE X e te) (hs : swapsWith e (some (.Attribute o f p)) pos.line X.env = pure false) :
    PS X (.Assign [.Attribute o f p] e pos) (fun D σ H => te σ H fun y H1 => to σ H1 fun x H2 => ∃ a : Addr, x = .ref a ∧ H2 a = some (exo a C none) ∧ ∀ dx, H2 dx = none → dx ≠ a → D.nx σ (upd (upd H2 dx (exd dx [(f, y)])) a (exo a C (some dx)))) := by
  constructor
  intro pins s σ H D I h
  refine plainObj_wpAny_Assign_Attribute (thn (he.run pins s σ H _ I h) ?_) hs
  rintro v s1 ⟨y, H1, I1, r1, q1⟩
  refine thn (ho.run pins s1 σ H1 _ I1 q1) ?_
  rintro u s2 ⟨x, H2, I2, r2, a, rfl, ea, q⟩
  obtain rfl : u = Value.ref a := r2
  exact ostG T I2 ea hno r1 fun dx s' n ne J => ⟨σ, _, J, q dx n ne⟩
end
section
variable {P : Program} {w : World} {K : Frg} {mg : Str → Option Value} {base : Heap} {C : Addr} {f : Str} {B newId initId : String} {bm : List Value}
/-- the form of the text -/
theorem initCall {x : Str} {p1 p2 p3 p4 pos : Pos} {s1 mm : Str} {jj : Nat} {env : Env} (hline : (p2.endLine == pos.line) = true) : eval (.Call (.Attribute (.Name x p1) "__init__" p2) [.Name s1 p3, .Constant (.str mm) jj p4] [] pos) env = (do
      let ov ← eval (.Name x p1) env
      standAt p2.atName
      let (f, first) ← holding [ov] (getMethod ov "__init__" (do return (← importBound (.Name x p1) env).getD true))
      callWith pos f first (backTo pos (starEach [.Name s1 p3, .Constant (.str mm) jj p4] env)) (backToKw pos (keywordEach [] env))) := by
  show (do
    let ov ← eval (.Name x p1) env
    standAt p2.atName
    methodCall (.Name x p1) "__init__" p2 pos env ov 2 (backTo pos (starEach [.Name s1 p3, .Constant (.str mm) jj p4] env)) (backToKw pos (keywordEach [] env))) = _
  have e : methodCallPos true (.Name x p1) env p2 pos = pure pos := by
    unfold methodCallPos
    rw [hline]
    rfl
  unfold methodCall
  have e2 : methodCallForm 2 (backTo pos (starEach [.Name s1 p3, .Constant (.str mm) jj p4] env)) (backToKw pos (keywordEach [] env)) = true := rfl
  rw [e2, e]
  rfl
def initOk (B : String) (f : Str) (sv xv : Str) : List Stmt → Bool
  | [.Expr (.Call (.Attribute (.Name b _) i p2) [.Name s1 _, .Constant (.str _) _ _] [] pos) _, .Assign [.Attribute (.Name s2 _) g _] (.Name x _) _] =>
    b == Str.ofString B && i == ("__init__" : Str) && s1 == sv && s2 == sv && g == f && x == xv && (p2.endLine == pos.line)
  | _ => false
theorem ok_init {x qual : Str} {st : Stmt} {fI : Addr} {fd : FuncData} {sv xv : Str} (F : L2.Fun K x qual st fI fd) (S : FnScope [sv, xv] [sv, xv] (defScope st)) (T : OxC K C B newId initId bm) (b : BsC K B initId) (hm : mg (Str.ofString B) = none)
    (hno : PySem.W.findIn K (.ref C) f = some none) (hf : initOk B f sv xv (defBody st) = true) (hg : (defScope st).names.lookup (Str.ofString B) = some .globalImplicit) (hd1 : (sv == ("__debug__" : Str)) = false) (hd2 : (sv == ("__classdict__" : Str)) = false) (hd3 : (xv == ("__debug__" : Str)) = false) (hd4 : (xv == ("__classdict__" : Str)) = false) :
    FnOk P w K mg base (L2.CX P w) 1 fI fd [sv, xv] (spI C f) := by
  refine F.okX S (fun vs H Q E ⟨a, v, e, _⟩ => by rw [e]; rfl) fun cdv A outer s H vs Q E hr ⟨a, v, e, ha, q⟩ => ?_
  subst e
  generalize hb : defBody st = body at hf
  unfold initOk at hf
  split at hf
  · rename_i b0 p1 i p2 s1 p3 mm jj p4 pos pos' s2 p5 g p6 x1 p7 pos2
    simp only [Bool.and_eq_true, beq_iff_eq] at hf
    obtain ⟨⟨⟨⟨⟨⟨rfl, rfl⟩, rfl⟩, rfl⟩, rfl⟩, rfl⟩, hline⟩ := hf
    have n0 : Vis (defScope st) s2 := by
      rcases S.par s2 List.mem_cons_self with z | z
      · exact .inl z
      · exact .inr (.inl z)
    have n1 : Vis (defScope st) x1 := by
      rcases S.par x1 (List.mem_cons_of_mem _ List.mem_cons_self) with z | z
      · exact .inl z
      · exact .inr (.inl z)
    refine ⟨_, pss_cons (ps_expr (pe_initG (X := cxOf (L2.CX P w) P w K mg base [s2, x1] qual (defScope st) fI cdv A outer s H E) T b hg hm (pa_cons (pe_var (i := 0) rfl n0 hd1 hd2) (pa_cons pe_str pa_nil rfl) rfl) (initCall (beq_iff_eq.mpr hline)) rfl rfl) rfl)
      (pss_one (ps_ostG T hno (pe_var (i := 0) rfl n0 hd1 hd2) (pe_var (i := 1) rfl n1 hd3 hd4) rfl)), ?_⟩
    exact ⟨.ref a, rfl, a, [.str mm], rfl, by simp, ha, v, rfl, .ref a, rfl, a, rfl, ha, q⟩
  · cases hf
end
/-! ### C(e) -/
section
variable {X : Cx} {C fI : Addr} {f : Str} {B newId initId : String} {bm : List Value} {fd : FuncData} {sv xv x : Str} {e : Expr} {ta : TA} {p pos : Pos}
theorem pmkG (T : OxC X.K C B newId initId bm) (iC : PySem.W.findIn X.K (.ref C) "__init__" = some (some (.ref fI))) (tI : PySem.W.typeIn X.K (.ref fI) = some (.type "function"))
    (F1 : FnOk X.prog X.w X.K X.mg X.base (L2.CX X.prog X.w) 1 fI fd [sv, xv] (spI C f)) (hr : Room 2 X.A) (hb : Binds X.K fd [sv, xv] []) (hg : Gl X x) (hm : X.mg x = some (.ref C)) (ha : PA X [e] ta)
    (hdb : (x == ("__debug__" : Str)) = false) (he : starEach [e] X.env = (false, eval e X.env) :: starEach [] X.env) :
    PMk X (.Call (.Name x p) [e] [] pos) (fun σ H Q => ta σ H fun vs H1 => ∃ v, vs = [v] ∧ ∀ d, H1 d = none → Q (.ref C) (some d) (upd H1 d (.xd [(f, v)]))) := by
  intro pins s σ H Q I h
  obtain ⟨nm, q, N, bs, sn, sub, ab, col, dd, k0, k1, k2, k3, k5, hC⟩ := T.cls
  refine wpAny_Call_Name_kw (ld_glob I hg hm ?_ hdb)
  refine PySem.W.callWith_K (h₀ := X.base) I.ok.mod.kin T.kC (thn (ha.run pos pins s σ H _ I h) ?_) he (by rfl)
  rintro us s1 ⟨vs, H1, J, rv, v, ev, q1⟩
  refine ⟨J.kIn, ?_⟩
  subst ev
  show wpAny _ _ (call (.ref C) us) _ _ _
  obtain ⟨hp, g, dr, tk, os⟩ := s1
  have hsz : hp.objs.size ≤ hp.objs.size + 1 := Nat.le_succ _
  have hn : H1 (hp.objs.size + 1) = none := J.hok.fresh hsz
  have kk : ∀ b o, hp.get? b = some o → ((hp.push (PySem.W.kdv_tup us)).push (PySem.HandSPX.excO C hp.objs.size)).get? b = some o := fun b o z => Heap.get?_push_of_some _ (Heap.get?_push_of_some _ z)
  have hget : ((hp.push (PySem.W.kdv_tup us)).push (PySem.HandSPX.excO C hp.objs.size)).get? (hp.objs.size + 1) = some (PySem.HandSPX.excO C hp.objs.size) := by heap_get
  have I2 : Inv X pins σ (upd H1 (hp.objs.size + 1) (exo (hp.objs.size + 1) C none)) ⟨(hp.push (PySem.W.kdv_tup us)).push (PySem.HandSPX.excO C hp.objs.size), g, dr, tk, os⟩ := J.laid (t' := tk) kk hsz (exo_ok hget)
  have r2 : Vals [V.ref (hp.objs.size + 1), v] (Value.ref (hp.objs.size + 1) :: us) := .cons rfl rv
  have hbb : BindsTo ⟨(hp.push (PySem.W.kdv_tup us)).push (PySem.HandSPX.excO C hp.objs.size), g, dr, tk, os⟩ fd ⟨Value.ref (hp.objs.size + 1) :: us, []⟩ ([sv, xv].zip (Value.ref (hp.objs.size + 1) :: us)) := by
    have z := hb _ (Value.ref (hp.objs.size + 1) :: us) I2.kIn (by rw [List.append_nil, ← r2.length]; rfl)
    rw [List.append_nil] at z
    exact z
  have hq : spI C f [V.ref (hp.objs.size + 1), v] (upd H1 (hp.objs.size + 1) (exo (hp.objs.size + 1) C none)) (fun w2 H2 => w2 = .non ∧ ∃ d, H2 (hp.objs.size + 1) = some (exo (hp.objs.size + 1) C (some d)) ∧ H2 d = some (exd d [(f, v)]) ∧ H1 d = none ∧ Q (.ref C) (some d) (upd (del H2 (hp.objs.size + 1)) d (.xd [(f, v)]))) (fun _ _ _ => False) := by
    refine ⟨_, v, rfl, upd_same, fun dx h1 h2 => ⟨rfl, dx, upd_same, ?_, ?_, ?_⟩⟩
    · rw [upd_ne h2, upd_same]
    · rw [upd_ne h2] at h1; exact h1
    · rw [upd_ne h2] at h1
      have z := q1 dx h1
      refine cast (congrArg _ ?_) z
      funext b
      by_cases b1 : b = dx
      · rw [b1, upd_same, upd_same]
      · rw [upd_ne b1, upd_ne b1]
        unfold del
        by_cases b2 : b = hp.objs.size + 1
        · rw [if_pos b2, b2]; exact hn
        · rw [if_neg b2, upd_ne b2, upd_ne b1, upd_ne b2]
  refine wpAny_call (PySem.HandSPX.call_own T.fact (fun _ => rfl) (J.kIn _ _ hC) (PySem.W.looks_findIn J.kIn iC) (fun self => PySem.W.bind_fn J.kIn self tI) (by rw [← rv.length, sizeLine_eq]; show 1 ≤ 16777216; omega)
    (codeAny_mono (F1.run _ X.stack _ _ ⟨Value.ref (hp.objs.size + 1) :: us, []⟩ (Value.ref (hp.objs.size + 1) :: us) _ _ (fun _ _ _ => False) (hr.make C us []) (I2.env0.make C us []) hbb r2 hq) ?_))
  intro r s' hq'
  match r, hq' with
  | .error er, hq' =>
    obtain ⟨_, _, _, _, _, _, _, _, _, _, _, _, z⟩ := hq'
    exact z.elim
  | .ok (.ret u), hq' =>
    obtain ⟨w2, H2, os2, bare2, un2, hok2, rw2, ew, d, ea, ed, hd1, q2⟩ := hq'
    subst ew
    obtain ⟨h2, g2, d2, t2, os'⟩ := s'
    exact ⟨rw2, mk_end (raises_own T.exC T.tyC) J hsz kk un2 hok2 os2 bare2 ea ed hd1 q2⟩
end
end Mi

/-! Mi: operations on plain data, and the layer's rules for them. -/
namespace Mi
open PySem PySem.Spec PyProof.Rows L2

def Post (K : Frg) (r : Rho) (H : Hp) (Q : VK) (p : PD) : Prop := ∀ v H', Same H H' → RP K r H' v p → Q v H'
section
variable {K : Frg} {r : Rho} {H : Hp} {Q : VK}
theorem Post.here {p : PD} (q : Post K r H Q p) {v : V} (h : RP K r H v p) : Q v H := q v H (Same.refl H) h
theorem Post.tup {ds : List PD} (q : Post K r H Q (.tuple ds)) (t : Trk r H) {ys : List V} (h : RPs K r H ys ds) : ∀ p, H p = none → Q (.ref p) (upd H p (.tup ys)) := fun p hp =>
  q _ _ (same_new hp) (.tup (.inl ⟨.inl upd_same, t.off hp⟩) (h.sm (same_new hp)))
theorem Post.lst {ds : List PD} (q : Post K r H Q (.list ds)) (t : Trk r H) {ys : List V} (h : RPs K r H ys ds) : ∀ p, H p = none → Q (.ref p) (upd H p (.lst ys)) := fun p hp =>
  q _ _ (same_new hp) (.lst upd_same (t.off hp) (h.sm (same_new hp)))
end
/-- a two-place operation: the objects themselves; what may be read -/
def rX2 (K : Frg) (g : PD → PD → Option PD) : R2 := fun x y H Q => ∃ r d e p, Vx K r H x d ∧ Vx K r H y e ∧ Trk r H ∧ g d e = some p ∧ Post K r H Q p
def rW2 (K : Frg) (g : PD → PD → Option PD) : R2 := fun x y H Q => ∃ r d e p, Vw K r H x d ∧ Vw K r H y e ∧ Trk r H ∧ g d e = some p ∧ Post K r H Q p
theorem imp2 {X : Cx} {f : Value → Value → Sem Value} {r r' : R2} (h : OpR X f r) (i : ∀ x y H Q, r' x y H Q → r x y H Q) : OpR X f r' := fun pins s σ H x y v u Q I rx ry q =>
  h pins s σ H x y v u Q I rx ry (i x y H Q q)

def addP : PD → PD → Option PD
  | .int i, .int j => some (.int (i + j))
  | .str x, .str y => if x.length + y.length ≤ sizeLine then some (.str (x ++ y)) else none
  | .list xs, .list ys => if xs.length + ys.length ≤ sizeLine then some (.list (xs ++ ys)) else none
  | .tuple xs, .tuple ys => if xs.length + ys.length ≤ sizeLine then some (.tuple (xs ++ ys)) else none
  | _, _ => none
def subP : PD → PD → Option PD
  | .int i, .int j => some (.int (i - j))
  | _, _ => none
def mulP : PD → PD → Option PD
  | .int i, .int j => if i.natAbs < 2 ^ 64 ∨ j.natAbs < 2 ^ 64 then some (.int (i * j)) else none
  | .list xs, .int k => if -(2 ^ 63) ≤ k ∧ k < 2 ^ 63 ∧ xs.length * k.toNat ≤ sizeLine then some (.list (List.replicate k.toNat xs).flatten) else none
  | .tuple xs, .int k => if xs ≠ [] ∧ 0 ≤ k ∧ k ≤ 1000 ∧ xs.length ≤ 1000 then some (.tuple (List.replicate k.toNat xs).flatten) else none
  | _, _ => none
def fdivP : PD → PD → Option PD
  | .int i, .int j => if 0 < j ∧ j.natAbs.log2 < 9000 then some (.int (i / j)) else none
  | _, _ => none
def modP : PD → PD → Option PD
  | .int i, .int j => if 0 < j then some (.int (i % j)) else none
  | _, _ => none
def powP : PD → PD → Option PD
  | .int i, .int j => if 0 ≤ j ∧ (Builtin.Int.intBits i : Int) * j ≤ 2 ^ 27 then some (.int (i ^ j.toNat)) else none
  | _, _ => none
def binP : Operator → PD → PD → Option PD
  | .Add => addP
  | .Sub => subP
  | .Mult => mulP
  | .FloorDiv => fdivP
  | .Mod => modP
  | .Pow => powP
  | _ => fun _ _ => none
section
variable {X : Cx}
theorem natAbs_iff {i : Int} : i.natAbs < 2 ^ 64 → -(2 ^ 64) < i ∧ i < 2 ^ 64 := fun h => by omega
theorem op_powX : OpR X (binaryOp .Pow) (rI (fun i j => 0 ≤ j ∧ (Builtin.Int.intBits i : Int) * j ≤ 2 ^ 27) fun i j => .int (i ^ j.toNat)) := opI fun _ _ _ _ _ _ _ hc q => pow_int hc.1 hc.2 q
theorem bin_add : OpR X (binaryOp .Add) (rX2 X.K addP) := by
  refine imp2 (op_add.or (op_add_str.or (op_cat.or op_catA))) fun x y H Q h => ?_
  obtain ⟨r, d, e, p, hx, hy, ht, hp, q⟩ := h
  cases d with
  | int i =>
    cases e with
    | int j =>
      cases hx.int; cases hy.int
      cases hp
      exact .inl ⟨i, j, rfl, rfl, q.here (.int _)⟩
    | _ => cases hp
  | str i =>
    cases e with
    | str j =>
      cases hx.str; cases hy.str
      simp only [addP] at hp
      split at hp
      · rename_i hz
        cases hp
        exact .inr (.inl ⟨i, j, rfl, rfl, hz, q.here (.str _)⟩)
      · cases hp
    | _ => cases hp
  | list ds =>
    cases e with
    | list es =>
      obtain ⟨a, ys, rfl, h1, h2⟩ := hx.list
      obtain ⟨b, zs, rfl, h3, h4⟩ := hy.list
      simp only [addP] at hp
      split at hp
      · rename_i hz
        cases hp
        exact .inr (.inr (.inl ⟨a, b, ys, zs, rfl, rfl, h1, h3, by rw [h2.length, h4.length]; exact hz, q.lst ht (h2.append h4)⟩))
      · cases hp
    | _ => cases hp
  | tuple ds =>
    cases e with
    | tuple es =>
      obtain ⟨a, ys, rfl, h1, h2⟩ := hx.tuple
      obtain ⟨b, zs, rfl, h3, h4⟩ := hy.tuple
      simp only [addP] at hp
      split at hp
      · rename_i hz
        cases hp
        refine .inr (.inr (.inr ⟨a, b, ys, zs, rfl, rfl, h1.sq, h3.sq, by rw [h2.length, h4.length]; exact hz, fun z => ?_, fun _ z => ?_, fun _ _ => q.tup ht (h2.append h4)⟩))
        · subst z
          cases h2
          exact q.here (.tup h3 h4)
        · subst z
          cases h4
          rw [List.append_nil] at q
          exact q.here (.tup h1 h2)
      · cases hp
    | _ => cases hp
  | _ => cases hp
theorem bin_sub : OpR X (binaryOp .Sub) (rX2 X.K subP) := by
  refine imp2 op_sub fun x y H Q h => ?_
  obtain ⟨r, d, e, p, hx, hy, ht, hp, q⟩ := h
  cases d <;> cases e <;> first
    | (cases hx.int; cases hy.int; cases hp; exact ⟨_, _, rfl, rfl, q.here (.int _)⟩)
    | cases hp
theorem bin_mul : OpR X (binaryOp .Mult) (rX2 X.K mulP) := by
  refine imp2 (op_mul.or (op_rep.or (op_repT.or (op_rep1.or op_rep0)))) fun x y H Q h => ?_
  obtain ⟨r, d, e, p, hx, hy, ht, hp, q⟩ := h
  cases d with
  | int i =>
    cases e with
    | int j =>
      cases hx.int; cases hy.int
      simp only [mulP] at hp
      split at hp
      · rename_i hz
        cases hp
        refine .inl ⟨i, j, rfl, rfl, ?_, q.here (.int _)⟩
        rcases hz with hz | hz
        · exact .inl (natAbs_iff hz)
        · exact .inr (natAbs_iff hz)
      · cases hp
    | _ => cases hp
  | list ds =>
    cases e with
    | int k =>
      cases hy.int
      obtain ⟨a, ys, rfl, h1, h2⟩ := hx.list
      simp only [mulP] at hp
      split at hp
      · rename_i hz
        cases hp
        exact .inr (.inl ⟨a, k, ys, rfl, rfl, h1, hz.1, hz.2.1, by rw [h2.length]; exact hz.2.2, q.lst ht (h2.rep _)⟩)
      · cases hp
    | _ => cases hp
  | tuple ds =>
    cases e with
    | int k =>
      cases hy.int
      obtain ⟨a, ys, rfl, h1, h2⟩ := hx.tuple
      simp only [mulP] at hp
      split at hp
      · rename_i hz
        cases hp
        have hne : ys ≠ [] := fun z => hz.1 (by
          subst z
          exact List.eq_nil_of_length_eq_zero h2.length.symm)
        by_cases h10 : k = 0
        · subst h10
          exact .inr (.inr (.inr (.inr ⟨a, ys, rfl, rfl, h1.sq, hne, q.tup ht .nil⟩)))
        · by_cases h11 : k = 1
          · subst h11
            refine .inr (.inr (.inr (.inl ⟨a, ys, rfl, rfl, h1.sq, q.here ?_⟩)))
            have e : (List.replicate (Int.toNat 1) ds).flatten = ds := by simp
            rw [e]
            exact .tup h1 h2
          · exact .inr (.inr (.inl ⟨a, k, ys, rfl, rfl, h1.sq, hne, by omega, hz.2.2.1, by rw [h2.length]; exact hz.2.2.2, q.tup ht (h2.rep _)⟩))
      · cases hp
    | _ => cases hp
  | _ => cases hp
theorem bin_fdiv : OpR X (binaryOp .FloorDiv) (rX2 X.K fdivP) := by
  refine imp2 op_fdivW fun x y H Q h => ?_
  obtain ⟨r, d, e, p, hx, hy, ht, hp, q⟩ := h
  cases d <;> cases e <;> first
    | (cases hx.int; cases hy.int
       simp only [fdivP] at hp
       split at hp
       · rename_i hz
         cases hp
         exact ⟨_, _, rfl, rfl, hz, q.here (.int _)⟩
       · cases hp)
    | cases hp
theorem bin_mod : OpR X (binaryOp .Mod) (rX2 X.K modP) := by
  refine imp2 op_mod fun x y H Q h => ?_
  obtain ⟨r, d, e, p, hx, hy, ht, hp, q⟩ := h
  cases d <;> cases e <;> first
    | (cases hx.int; cases hy.int
       simp only [modP] at hp
       split at hp
       · rename_i hz
         cases hp
         exact ⟨_, _, rfl, rfl, hz, q.here (.int _)⟩
       · cases hp)
    | cases hp
theorem bin_pow : OpR X (binaryOp .Pow) (rX2 X.K powP) := by
  refine imp2 op_powX fun x y H Q h => ?_
  obtain ⟨r, d, e, p, hx, hy, ht, hp, q⟩ := h
  cases d <;> cases e <;> first
    | (cases hx.int; cases hy.int
       simp only [powP] at hp
       split at hp
       · rename_i hz
         cases hp
         exact ⟨_, _, rfl, rfl, hz, q.here (.int _)⟩
       · cases hp)
    | cases hp
theorem bin_ok (op : Operator) : OpR X (binaryOp op) (rX2 X.K (binP op)) := by
  cases op with
  | Add => exact bin_add
  | Sub => exact bin_sub
  | Mult => exact bin_mul
  | FloorDiv => exact bin_fdiv
  | Mod => exact bin_mod
  | Pow => exact bin_pow
  | _ => exact fun pins s σ H x y v u Q I rx ry ⟨_, _, _, _, _, _, _, hp, _⟩ => by cases hp
end
end Mi

/-! Mi: comparisons, truth, places, slices, lengths. -/
namespace Mi
open PySem PySem.Spec PyProof.Rows L2

def scalP (d e : PD) : Bool := match plainV d, plainV e with
  | some x, some y => scal x y
  | _, _ => false
def eqOk (d e : PD) : Bool := scalP d e || (SeqAt.shaped d && SeqAt.shaped e)
/-- lists of unlike lengths; a tuple and an empty one -/
def lenNe : PD → PD → Bool
  | .list xs, .list ys => xs.length != ys.length
  | .tuple xs, .tuple ys => xs.length != ys.length && (xs.isEmpty || ys.isEmpty)
  | _, _ => false
def eqP (d e : PD) : Option PD := if eqOk d e then some (.bool (PyData.eqv d e)) else if lenNe d e then some (.bool false) else none
def neP (d e : PD) : Option PD := if eqOk d e then some (.bool (!PyData.eqv d e)) else if lenNe d e then some (.bool true) else none
theorem len_of {K : Frg} {r : Rho} {H : Hp} {Q : VK} {x y : V} {d e : PD} {b : Bool} (hx : Vw K r H x d) (hy : Vw K r H y e) (h : lenNe d e = true) (q : Q (.bl b) H) : rLen K b x y H Q := by
  unfold lenNe at h
  split at h
  · obtain ⟨a, xs, rfl, h1, h2⟩ := hx.list
    obtain ⟨a', ys, rfl, h1', h2'⟩ := hy.list
    exact ⟨a, a', xs, ys, rfl, rfl, .inl ⟨h1, h1', by rw [h2.length, h2'.length]; simpa using h⟩, q⟩
  · obtain ⟨a, xs, rfl, h1, h2⟩ := hx.tuple
    obtain ⟨a', ys, rfl, h1', h2'⟩ := hy.tuple
    rw [Bool.and_eq_true] at h
    refine ⟨a, a', xs, ys, rfl, rfl, .inr ⟨h1.sq, h1'.sq, by rw [h2.length, h2'.length]; simpa using h.1, ?_⟩, q⟩
    have h3 := h.2
    rw [Bool.or_eq_true, List.isEmpty_iff, List.isEmpty_iff] at h3
    rcases h3 with h3 | h3
    · left; subst h3; exact List.eq_nil_of_length_eq_zero h2.length
    · right; subst h3; exact List.eq_nil_of_length_eq_zero h2'.length
  · cases h
theorem scal_eqv {d e : PD} {x y : V} (h1 : plainV d = some x) (h2 : plainV e = some y) (h : scal x y = true) : decide (x = y) = PyData.eqv d e := by
  cases d <;> cases e <;> (try (cases h1; done)) <;> (try (cases h2; done)) <;>
    (cases h1; cases h2; first | rfl | (cases h; done) | (simp [PyData.eqv]; done) | (simp [PyData.eqv]; rw [Bool.eq_iff_iff]; simp; done))
def ltP : PD → PD → Option PD
  | .int i, .int j => some (.bool (decide (i < j)))
  | .str x, .str y => some (.bool (decide (x.cps.toList < y.cps.toList)))
  | _, _ => none
def leP : PD → PD → Option PD
  | .int i, .int j => some (.bool (decide (i ≤ j)))
  | .str x, .str y => some (.bool (!decide (y.cps.toList < x.cps.toList)))
  | _, _ => none
def gtP (d e : PD) : Option PD := ltP e d
def geP (d e : PD) : Option PD := leP e d
/-- a key of a dict -/
def keyP : PD → Option Key
  | .int i => some (.inl i)
  | .str x => some (.inr x)
  | _ => none
def lookP (k : PD) : List (PD × PD) → Option PD
  | [] => none
  | (j, d) :: r => if PyData.eqv j k then some d else lookP k r
def flatP (d : PD) : Bool := match plainV d with
  | some _ => true
  | none => false
def memP (d : PD) (ys : List PD) : Bool := ys.any fun y => PyData.eqv y d
def inP : PD → PD → Option Bool
  | .str x, .str z => match x.cps.toList with
    | [c] => some (decide (c ∈ z.cps.toList))
    | _ => none
  | d, .list ys => if flatP d && ys.all flatP then some (memP d ys) else if SeqAt.shaped d && SeqAt.shaped (.list ys) then some (memP d ys) else none
  | d, .tuple ys => if flatP d && ys.all flatP then some (memP d ys) else none
  | d, .dict kvs => match keyP d with
    | some _ => some (lookP d kvs).isSome
    | none => none
  | _, _ => none
def isP : PD → PD → Option Bool
  | d, .none => some (match d with | .none => true | _ => false)
  | .bool a, .bool b => some (decide (a = b))
  | _, _ => none
def cmpP : CmpOp → PD → PD → Option PD
  | .Eq => eqP
  | .NotEq => neP
  | .Lt => ltP
  | .LtE => leP
  | .Gt => gtP
  | .GtE => geP
  | .In => fun d e => (inP d e).map .bool
  | .NotIn => fun d e => (inP d e).map fun b => .bool (!b)
  | .Is => fun d e => (isP d e).map .bool
  | .IsNot => fun d e => (isP d e).map fun b => .bool (!b)

section
variable {K : Frg} {r : Rho} {H : Hp}
theorem plainV_rp {d : PD} {v w : V} (h : RP K r H v d) (e : plainV d = some w) : v = w := (Vx.plain (.inl h) e)
theorem flatV_of {d : PD} {w : V} (e : plainV d = some w) : flatV w = true := by cases d <;> cases e <;> rfl
theorem eqV_of {d e : PD} {x y : V} (h1 : plainV d = some x) (h2 : plainV e = some y) : eqV x y = PyData.eqv d e := by
  cases d <;> cases e <;> (try (cases h1; done)) <;> (try (cases h2; done)) <;>
    (cases h1; cases h2; first | rfl | (simp [eqV, PyData.eqv]; done))
theorem flatP_some {d : PD} (h : flatP d = true) : ∃ w, plainV d = some w := by
  unfold flatP at h
  cases e : plainV d with
  | none => rw [e] at h; cases h
  | some w => exact ⟨w, rfl⟩
theorem flat_all : ∀ {ds : List PD} {vs : List V}, RPs K r H vs ds → ds.all flatP = true → vs.all flatV = true
  | [], _, h, _ => by cases h; rfl
  | d :: ds, _, h, f => by
    cases h with
    | cons h1 h2 =>
      rw [List.all_cons, Bool.and_eq_true] at f
      obtain ⟨w, e⟩ := flatP_some f.1
      rw [List.all_cons, plainV_rp h1 e, flatV_of e, flat_all h2 f.2]
      rfl
theorem inV_of {d : PD} {x : V} (e : plainV d = some x) : ∀ {ds : List PD} {vs : List V}, RPs K r H vs ds → ds.all flatP = true → inV x vs = memP d ds
  | [], _, h, _ => by cases h; rfl
  | c :: ds, _, h, f => by
    cases h with
    | cons h1 h2 =>
      rw [List.all_cons, Bool.and_eq_true] at f
      obtain ⟨w, q⟩ := flatP_some f.1
      have ih := inV_of e h2 f.2
      unfold inV memP at ih ⊢
      rw [List.any_cons, List.any_cons, ih, plainV_rp h1 q, eqV_of q e]
theorem keyP_plain {d : PD} {k : Key} (e : keyP d = some k) : plainV d = some (kV k) := by cases d <;> cases e <;> rfl
theorem keyP_kP (k : Key) : keyP (kP k) = some k := by cases k <;> rfl
theorem eqv_key {d : PD} {k j : Key} (e : keyP d = some k) : PyData.eqv (kP j) d = decide (j = k) := by
  cases d <;> cases e <;> cases j <;> simp [kP, PyData.eqv] <;> (try (rw [Bool.eq_iff_iff]; simp))
theorem look_of {d : PD} {k : Key} (e : keyP d = some k) : ∀ {ds : List (PD × PD)} {kvs : List (Key × V)}, RPk K r H kvs ds →
    (valV kvs k = none ∧ lookP d ds = none) ∨ ∃ v c, valV kvs k = some v ∧ lookP d ds = some c ∧ RP K r H v c
  | [], _, h => by cases h; exact .inl ⟨rfl, rfl⟩
  | (j, c) :: ds, _, h => by
    cases h with
    | cons h1 h2 =>
      rename_i j v kvs
      by_cases z : j = k
      · subst z
        refine .inr ⟨v, c, ?_, ?_, h1⟩
        · simp [valV]
        · simp [lookP, eqv_key e]
      · have z1 : valV ((j, v) :: kvs) k = valV kvs k := by simp [valV, z]
        have z2 : lookP d ((kP j, c) :: ds) = lookP d ds := by simp [lookP, eqv_key e, z]
        rw [z1, z2]
        exact look_of e h2
theorem look_isSome {d : PD} {k : Key} (e : keyP d = some k) {ds : List (PD × PD)} {kvs : List (Key × V)} (h : RPk K r H kvs ds) : (valV kvs k).isSome = (lookP d ds).isSome := by
  rcases look_of e h with ⟨a, b⟩ | ⟨v, c, a, b, _⟩
  · rw [a, b]; rfl
  · rw [a, b]; rfl
end
section
variable {X : Cx}
theorem op_inDct (hu : X.A.units + 1 < cLine) : OpR X (compareOp .In) (fun y x H Q => ∃ a o, x = .ref a ∧ DGet H a y o ∧ Q (.bl o.isSome) H) := by
  intro pins s σ H y x iv u Q I ry rx h
  obtain ⟨a, ov, rfl, g, q⟩ := h
  cases rx
  exact d_in hu I g ry fun s3 I3 => ⟨.bl ov.isSome, H, I3, rfl, q⟩
theorem op_ninDct (hu : X.A.units + 1 < cLine) : OpR X (compareOp .NotIn) (fun y x H Q => ∃ a o, x = .ref a ∧ DGet H a y o ∧ Q (.bl (!o.isSome)) H) := by
  intro pins s σ H y x iv u Q I ry rx h
  obtain ⟨a, ov, rfl, g, q⟩ := h
  cases rx
  exact d_notIn hu I g ry fun s3 I3 => ⟨.bl (!ov.isSome), H, I3, rfl, q⟩
theorem cmp_eq (hu : X.A.units + 64 < cLine) : OpR X (compareOp .Eq) (rW2 X.K eqP) := by
  refine imp2 (op_eq.or ((op_eqD hu).or (op_eqLen (by omega)))) fun x y H Q h => ?_
  obtain ⟨r, d, e, p, hx, hy, ht, hp, q⟩ := h
  unfold eqP at hp
  split at hp
  · rename_i hz
    cases hp
    unfold eqOk scalP at hz
    cases h1 : plainV d with
    | some v =>
      cases h2 : plainV e with
      | some w =>
        cases h3 : scal v w with
        | true =>
          cases hx.plain h1; cases hy.plain h2
          exact .inl ⟨h3, by rw [scal_eqv h1 h2 h3]; exact q.here (.bl _)⟩
        | false =>
          simp only [h1, h2, h3, Bool.false_or, Bool.and_eq_true] at hz
          exact .inr (.inl ⟨d, e, hx.dp (SeqAt.canLay_of_shaped hz.1), hy.dp (SeqAt.canLay_of_shaped hz.2), hz.1, hz.2, q.here (.bl _)⟩)
      | none =>
        simp only [h1, h2, Bool.false_or, Bool.and_eq_true] at hz
        exact .inr (.inl ⟨d, e, hx.dp (SeqAt.canLay_of_shaped hz.1), hy.dp (SeqAt.canLay_of_shaped hz.2), hz.1, hz.2, q.here (.bl _)⟩)
    | none =>
      simp only [h1, Bool.false_or, Bool.and_eq_true] at hz
      exact .inr (.inl ⟨d, e, hx.dp (SeqAt.canLay_of_shaped hz.1), hy.dp (SeqAt.canLay_of_shaped hz.2), hz.1, hz.2, q.here (.bl _)⟩)
  · split at hp
    · rename_i hz
      cases hp
      exact .inr (.inr (len_of hx hy hz (q.here (.bl _))))
    · cases hp
theorem cmp_ne (hu : X.A.units + 64 < cLine) : OpR X (compareOp .NotEq) (rW2 X.K neP) := by
  refine imp2 (op_ne.or ((op_neD hu).or (op_neLen (by omega)))) fun x y H Q h => ?_
  obtain ⟨r, d, e, p, hx, hy, ht, hp, q⟩ := h
  unfold neP at hp
  split at hp
  · rename_i hz
    cases hp
    unfold eqOk scalP at hz
    cases h1 : plainV d with
    | some v =>
      cases h2 : plainV e with
      | some w =>
        cases h3 : scal v w with
        | true =>
          cases hx.plain h1; cases hy.plain h2
          exact .inl ⟨h3, by rw [scal_eqv h1 h2 h3]; exact q.here (.bl _)⟩
        | false =>
          simp only [h1, h2, h3, Bool.false_or, Bool.and_eq_true] at hz
          exact .inr (.inl ⟨d, e, hx.dp (SeqAt.canLay_of_shaped hz.1), hy.dp (SeqAt.canLay_of_shaped hz.2), hz.1, hz.2, q.here (.bl _)⟩)
      | none =>
        simp only [h1, h2, Bool.false_or, Bool.and_eq_true] at hz
        exact .inr (.inl ⟨d, e, hx.dp (SeqAt.canLay_of_shaped hz.1), hy.dp (SeqAt.canLay_of_shaped hz.2), hz.1, hz.2, q.here (.bl _)⟩)
    | none =>
      simp only [h1, Bool.false_or, Bool.and_eq_true] at hz
      exact .inr (.inl ⟨d, e, hx.dp (SeqAt.canLay_of_shaped hz.1), hy.dp (SeqAt.canLay_of_shaped hz.2), hz.1, hz.2, q.here (.bl _)⟩)
  · split at hp
    · rename_i hz
      cases hp
      exact .inr (.inr (len_of hx hy hz (q.here (.bl _))))
    · cases hp
theorem cmp_lt : OpR X (compareOp .Lt) (rW2 X.K ltP) := by
  refine imp2 (op_lt.or op_lt_str) fun x y H Q h => ?_
  obtain ⟨r, d, e, p, hx, hy, ht, hp, q⟩ := h
  cases d <;> cases e <;> first
    | (cases hx.int; cases hy.int; cases hp; exact .inl ⟨_, _, rfl, rfl, q.here (.bl _)⟩)
    | (cases hx.str; cases hy.str; cases hp; exact .inr ⟨_, _, rfl, rfl, q.here (.bl _)⟩)
    | cases hp
theorem cmp_le : OpR X (compareOp .LtE) (rW2 X.K leP) := by
  refine imp2 (op_le.or op_le_str) fun x y H Q h => ?_
  obtain ⟨r, d, e, p, hx, hy, ht, hp, q⟩ := h
  cases d <;> cases e <;> first
    | (cases hx.int; cases hy.int; cases hp; exact .inl ⟨_, _, rfl, rfl, q.here (.bl _)⟩)
    | (cases hx.str; cases hy.str; cases hp; exact .inr ⟨_, _, rfl, rfl, q.here (.bl _)⟩)
    | cases hp
theorem cmp_gt : OpR X (compareOp .Gt) (rW2 X.K gtP) := by
  refine imp2 (op_gt.or op_gt_str) fun x y H Q h => ?_
  obtain ⟨r, d, e, p, hx, hy, ht, hp, q⟩ := h
  cases d <;> cases e <;> first
    | (cases hx.int; cases hy.int; cases hp; exact .inl ⟨_, _, rfl, rfl, q.here (.bl _)⟩)
    | (cases hx.str; cases hy.str; cases hp; exact .inr ⟨_, _, rfl, rfl, q.here (.bl _)⟩)
    | cases hp
theorem cmp_ge : OpR X (compareOp .GtE) (rW2 X.K geP) := by
  refine imp2 (op_ge.or op_ge_str) fun x y H Q h => ?_
  obtain ⟨r, d, e, p, hx, hy, ht, hp, q⟩ := h
  cases d <;> cases e <;> first
    | (cases hx.int; cases hy.int; cases hp; exact .inl ⟨_, _, rfl, rfl, q.here (.bl _)⟩)
    | (cases hx.str; cases hy.str; cases hp; exact .inr ⟨_, _, rfl, rfl, q.here (.bl _)⟩)
    | cases hp
/-- what an answer of «in» rests on -/
def InBy (K : Frg) (x y : V) (H : Hp) (b : Bool) : Prop :=
  (∃ (c : Nat) (z : Str), x = .str ⟨#[c]⟩ ∧ y = .str z ∧ b = decide (c ∈ z.cps.toList)) ∨
  (∃ p xs, y = .ref p ∧ (SqL K H p xs ∨ SqT K H p xs) ∧ flatV x = true ∧ xs.all flatV = true ∧ b = inV x xs) ∨
  (∃ d ds, Dp K H x d ∧ Dp K H y (.list ds) ∧ SeqAt.shaped d = true ∧ SeqAt.shaped (.list ds) = true ∧ b = (ds.any fun z => PyData.eqv z d)) ∨
  (∃ a o, y = .ref a ∧ DGet H a x o ∧ b = o.isSome)
theorem in_by {K : Frg} {r : Rho} {H : Hp} {x y : V} {d e : PD} {b : Bool} (hx : Vw K r H x d) (hy : Vw K r H y e) (h : inP d e = some b) : InBy K x y H b := by
  cases e with
  | str z =>
    cases d with
    | str w =>
      cases hx.str; cases hy.str
      simp only [inP] at h
      split at h
      · rename_i c hc
        cases h
        refine .inl ⟨c, z, ?_, rfl, rfl⟩
        have : w = ⟨#[c]⟩ := by
          cases w with
          | mk cps =>
            have : cps = #[c] := by
              apply Array.toList_inj.mp
              exact hc
            rw [this]
        rw [this]
      · cases h
    | _ => cases h
  | list ys =>
    obtain ⟨a, vs, rfl, h1, h2⟩ := hy.list
    have h' : (if flatP d && ys.all flatP then some (memP d ys) else if SeqAt.shaped d && SeqAt.shaped (.list ys) then some (memP d ys) else none) = some b := by
      cases d <;> exact h
    split at h'
    · rename_i hz
      cases h'
      rw [Bool.and_eq_true] at hz
      obtain ⟨w, q⟩ := flatP_some hz.1
      cases hx.plain q
      exact .inr (.inl ⟨a, vs, rfl, .inl h1, flatV_of q, flat_all h2 hz.2, (inV_of q h2 hz.2).symm⟩)
    · split at h'
      · rename_i hz
        cases h'
        rw [Bool.and_eq_true] at hz
        exact .inr (.inr (.inl ⟨d, ys, hx.dp (SeqAt.canLay_of_shaped hz.1), hy.dp (SeqAt.canLay_of_shaped hz.2), hz.1, hz.2, rfl⟩))
      · cases h'
  | tuple ys =>
    obtain ⟨a, vs, rfl, h1, h2⟩ := hy.tuple
    have h' : (if flatP d && ys.all flatP then some (memP d ys) else none) = some b := by
      cases d <;> exact h
    split at h'
    · rename_i hz
      cases h'
      rw [Bool.and_eq_true] at hz
      obtain ⟨w, q⟩ := flatP_some hz.1
      cases hx.plain q
      exact .inr (.inl ⟨a, vs, rfl, .inr h1.sq, flatV_of q, flat_all h2 hz.2, (inV_of q h2 hz.2).symm⟩)
    · cases h'
  | dict kvs =>
    obtain ⟨a, vs, rfl, h1, h2⟩ := hy.dict
    have h' : (match keyP d with | some _ => some (lookP d kvs).isSome | none => none) = some b := by
      cases d <;> exact h
    cases hk : keyP d with
    | none => rw [hk] at h'; cases h'
    | some k =>
      rw [hk] at h'
      cases h'
      cases hx.plain (keyP_plain hk)
      exact .inr (.inr (.inr ⟨a, _, rfl, .inl ⟨vs, k, h1, rfl, rfl⟩, (look_isSome hk h2).symm⟩))
  | _ => cases d <;> cases h
theorem cmp_in (hu : X.A.units + 65 < cLine) : OpR X (compareOp .In) (rW2 X.K fun d e => (inP d e).map .bool) := by
  refine imp2 (op_in_sign.or (op_in_seq.or ((op_inD hu).or (op_inDct (by omega))))) fun x y H Q h => ?_
  obtain ⟨r, d, e, p, hx, hy, ht, hp, q⟩ := h
  dsimp only at hp
  cases hb : inP d e with
  | none => rw [hb] at hp; cases hp
  | some b =>
    rw [hb] at hp
    cases hp
    have q' := q.here (.bl b)
    rcases in_by hx hy hb with ⟨c, z, h1, h2, h3⟩ | ⟨p, xs, h1, h2, h3, h4, h5⟩ | ⟨d', ds, h1, h2, h3, h4, h5⟩ | ⟨a, o, h1, h2, h3⟩
    · subst h3; exact .inl ⟨c, z, h1, h2, q'⟩
    · subst h5; exact .inr (.inl ⟨p, xs, h1, h2, h3, h4, q'⟩)
    · subst h5; exact .inr (.inr (.inl ⟨d', ds, h1, h2, h3, h4, q'⟩))
    · subst h3; exact .inr (.inr (.inr ⟨a, o, h1, h2, q'⟩))
theorem cmp_nin (hu : X.A.units + 65 < cLine) : OpR X (compareOp .NotIn) (rW2 X.K fun d e => (inP d e).map fun b => .bool (!b)) := by
  refine imp2 (op_notIn_sign.or (op_notIn_seq.or ((op_notInD hu).or (op_ninDct (by omega))))) fun x y H Q h => ?_
  obtain ⟨r, d, e, p, hx, hy, ht, hp, q⟩ := h
  dsimp only at hp
  cases hb : inP d e with
  | none => rw [hb] at hp; cases hp
  | some b =>
    rw [hb] at hp
    cases hp
    have q' := q.here (.bl (!b))
    rcases in_by hx hy hb with ⟨c, z, h1, h2, h3⟩ | ⟨p, xs, h1, h2, h3, h4, h5⟩ | ⟨d', ds, h1, h2, h3, h4, h5⟩ | ⟨a, o, h1, h2, h3⟩
    · subst h3; exact .inl ⟨c, z, h1, h2, q'⟩
    · subst h5; exact .inr (.inl ⟨p, xs, h1, h2, h3, h4, q'⟩)
    · subst h5; exact .inr (.inr (.inl ⟨d', ds, h1, h2, h3, h4, q'⟩))
    · subst h3; exact .inr (.inr (.inr ⟨a, o, h1, h2, q'⟩))
theorem is_by {K : Frg} {r : Rho} {H : Hp} {x y : V} {d e : PD} {b : Bool} (hx : Vw K r H x d) (hy : Vw K r H y e) (h : isP d e = some b) : (y = .non ∧ b = decide (x = .non)) ∨ ∃ u w : Bool, x = .bl u ∧ y = .bl w ∧ b = decide (u = w) := by
  cases e with
  | none =>
    cases hy.non
    refine .inl ⟨rfl, ?_⟩
    cases d with
    | none => cases hx.non; cases h; rfl
    | bool c => cases hx.bool; cases h; rfl
    | int c => cases hx.int; cases h; rfl
    | str c => cases hx.str; cases h; rfl
    | list c => obtain ⟨a, vs, rfl, _⟩ := hx.list; cases h; rfl
    | tuple c => obtain ⟨a, vs, rfl, _⟩ := hx.tuple; cases h; rfl
    | dict c => obtain ⟨a, vs, rfl, _⟩ := hx.dict; cases h; rfl
  | bool w =>
    cases d with
    | bool u => cases hx.bool; cases hy.bool; cases h; exact .inr ⟨u, w, rfl, rfl, rfl⟩
    | _ => cases h
  | _ => cases d <;> cases h
theorem cmp_is : OpR X (compareOp .Is) (rW2 X.K fun d e => (isP d e).map .bool) := by
  refine imp2 (op_isN.or op_isBl) fun x y H Q h => ?_
  obtain ⟨r, d, e, p, hx, hy, ht, hp, q⟩ := h
  dsimp only at hp
  cases hb : isP d e with
  | none => rw [hb] at hp; cases hp
  | some b =>
    rw [hb] at hp
    cases hp
    rcases is_by hx hy hb with ⟨h1, h2⟩ | ⟨u, w, h1, h2, h3⟩
    · subst h2; exact .inl ⟨h1, q.here (.bl _)⟩
    · subst h3; exact .inr ⟨u, w, h1, h2, q.here (.bl _)⟩
theorem cmp_isn : OpR X (compareOp .IsNot) (rW2 X.K fun d e => (isP d e).map fun b => .bool (!b)) := by
  refine imp2 (op_notN.or op_notBl) fun x y H Q h => ?_
  obtain ⟨r, d, e, p, hx, hy, ht, hp, q⟩ := h
  dsimp only at hp
  cases hb : isP d e with
  | none => rw [hb] at hp; cases hp
  | some b =>
    rw [hb] at hp
    cases hp
    rcases is_by hx hy hb with ⟨h1, h2⟩ | ⟨u, w, h1, h2, h3⟩
    · subst h2; exact .inl ⟨h1, q.here (.bl _)⟩
    · subst h3; exact .inr ⟨u, w, h1, h2, q.here (.bl _)⟩
theorem cmp_ok (op : CmpOp) (hu : X.A.units + 65 < cLine) : OpR X (compareOp op) (rW2 X.K (cmpP op)) := by
  cases op with
  | Eq => exact cmp_eq (by omega)
  | NotEq => exact cmp_ne (by omega)
  | Lt => exact cmp_lt
  | LtE => exact cmp_le
  | Gt => exact cmp_gt
  | GtE => exact cmp_ge
  | In => exact cmp_in hu
  | NotIn => exact cmp_nin hu
  | Is => exact cmp_is
  | IsNot => exact cmp_isn
end
end Mi

/-! Mi: truth, places, slices, built-in calls. -/
namespace Mi
open PySem PySem.Spec PyProof.Rows L2

def truP : PD → Option Bool
  | .none => some false
  | .bool b => some b
  | .int i => some (i != 0)
  | .str y => if y.length ≤ sizeLine then some ((y.length : Int) != 0) else none
  | .list xs => some (!xs.isEmpty)
  | .tuple xs => some (!xs.isEmpty)
  | .dict _ => none
def ixP : PD → PD → Option PD
  | .list xs, .int i => atI xs i
  | .tuple xs, .int i => atI xs i
  | .str z, .int i => if z.length ≤ sizeLine then (atI z.cps.toList i).map fun c => .str ⟨#[c]⟩ else none
  | .dict kvs, k => match keyP k with
    | some _ => lookP k kvs
    | none => none
  | _, _ => none
def cutL {α : Type} (xs : List α) (lo hi : Option Int) : List α := (xs.drop (HT.sIx xs.length 0 lo)).take (HT.sIx xs.length xs.length hi - HT.sIx xs.length 0 lo)
def slP : PD → Option Int → Option Int → Option PD
  | .list ds, lo, hi => some (.list (cutL ds lo hi))
  | .tuple ds, lo, hi => some (.tuple (cutL ds lo hi))
  | .str z, lo, hi => if z.length ≤ sizeLine then some (.str (cutS z lo hi)) else none
  | _, _, _ => none
section
variable {K : Frg} {r : Rho} {H : Hp}
theorem rps_empty {ds : List PD} {ys : List V} (h : RPs K r H ys ds) : ys.isEmpty = ds.isEmpty := by
  cases ds with
  | nil => cases h; rfl
  | cons d ds => cases h; rfl
theorem tru_by {x : V} {d : PD} {b : Bool} (hx : Vw K r H x d) (h : truP d = some b) : TruV K x H b := by
  cases d with
  | none => cases hx.non; cases h; rfl
  | bool c => cases hx.bool; cases h; rfl
  | int c => cases hx.int; cases h; rfl
  | str c =>
    cases hx.str
    simp only [truP] at h
    split at h
    · rename_i hz
      cases h
      exact ⟨hz, rfl⟩
    · cases h
  | list c =>
    obtain ⟨a, vs, rfl, h1, h2⟩ := hx.list
    cases h
    exact .inl ⟨vs, h1, by rw [rps_empty h2]⟩
  | tuple c =>
    obtain ⟨a, vs, rfl, h1, h2⟩ := hx.tuple
    cases h
    exact .inr (.inl ⟨vs, h1.sq, by rw [rps_empty h2]⟩)
  | dict c => cases h
theorem RPs.at {ds : List PD} {ys : List V} (h : RPs K r H ys ds) {i : Int} {d : PD} (e : atI ds i = some d) : ∃ v, atI ys i = some v ∧ RP K r H v d := by
  unfold atI at e ⊢
  rw [h.length]
  cases q : ixN ds.length i with
  | none => rw [q] at e; cases e
  | some j =>
    rw [q] at e
    obtain ⟨v, h1, h2⟩ := h.get (i := j) (d := d) e
    exact ⟨v, h1, h2⟩
theorem RPs.cut {ds : List PD} {ys : List V} (h : RPs K r H ys ds) (lo hi : Option Int) : RPs K r H (cutV ys lo hi) (cutL ds lo hi) := by
  unfold cutV cutL
  rw [h.length]
  exact (h.drop _).take _
inductive Vws (K : Frg) (r : Rho) (H : Hp) : List V → List PD → Prop
  | nil : Vws K r H [] []
  | cons {v : V} {vs : List V} {d : PD} {ds : List PD} : Vw K r H v d → Vws K r H vs ds → Vws K r H (v :: vs) (d :: ds)
theorem Vws.one {vs : List V} {d : PD} (h : Vws K r H vs [d]) : ∃ v, vs = [v] ∧ Vw K r H v d := by
  cases h with
  | cons h1 h2 => cases h2; exact ⟨_, rfl, h1⟩
theorem Vws.two {vs : List V} {d e : PD} (h : Vws K r H vs [d, e]) : ∃ v w, vs = [v, w] ∧ Vw K r H v d ∧ Vw K r H w e := by
  cases h with
  | cons h1 h2 =>
    obtain ⟨w, rfl, h3⟩ := h2.one
    exact ⟨_, w, rfl, h1, h3⟩
end
section
variable {X : Cx}
theorem ix_dct (hu : X.A.units + 1 < cLine) : IxR X (fun x y H Q => ∃ a v, x = .ref a ∧ DGet H a y (some v) ∧ Q v H) := by
  intro value slice pins s σ H x y v u Q I rx ry h hs
  obtain ⟨a, z, rfl, g, q⟩ := h
  cases rx
  exact tail_any (dict_typeIs I g) PySem.F.slot_dict_getitem.lookup (d_getItem hu I g ry fun w' s3 I3 r => ⟨z, H, I3, r, q⟩) hs
theorem imp_ix {r r' : R2} (h : IxR X r) (i : ∀ x y H Q, r' x y H Q → r x y H Q) : IxR X r' := fun value slice pins s σ H x y v u Q I rx ry q hs =>
  h value slice pins s σ H x y v u Q I rx ry (i x y H Q q) hs
theorem ix_ok (hu : X.A.units + 1 < cLine) : IxR X (rW2 X.K ixP) := by
  refine imp_ix (ix_list.or (ix_tup.or (ix_str.or (ix_dct hu)))) fun x y H Q h => ?_
  obtain ⟨r, d, e, p, hx, hy, ht, hp, q⟩ := h
  cases d with
  | list ds =>
    cases e with
    | int i =>
      obtain ⟨a, vs, rfl, h1, h2⟩ := hx.list
      cases hy.int
      obtain ⟨v, h3, h4⟩ := h2.at (show atI ds i = some p from hp)
      exact .inl ⟨a, vs, i, v, rfl, rfl, h1, h3, q.here h4⟩
    | _ => cases hp
  | tuple ds =>
    cases e with
    | int i =>
      obtain ⟨a, vs, rfl, h1, h2⟩ := hx.tuple
      cases hy.int
      obtain ⟨v, h3, h4⟩ := h2.at (show atI ds i = some p from hp)
      exact .inr (.inl ⟨a, vs, i, v, rfl, rfl, h1.sq, h3, q.here h4⟩)
    | _ => cases hp
  | str z =>
    cases e with
    | int i =>
      cases hx.str; cases hy.int
      simp only [ixP] at hp
      split at hp
      · rename_i hz
        cases ha : atI z.cps.toList i with
        | none => rw [ha] at hp; cases hp
        | some c =>
          rw [ha] at hp
          cases hp
          exact .inr (.inr (.inl ⟨z, i, c, rfl, rfl, hz, ha, q.here (.str _)⟩))
      · cases hp
    | _ => cases hp
  | dict kvs =>
    obtain ⟨a, vs, rfl, h1, h2⟩ := hx.dict
    have hp' : (match keyP e with | some _ => lookP e kvs | none => none) = some p := by cases e <;> exact hp
    cases hk : keyP e with
    | none => rw [hk] at hp'; cases hp'
    | some k =>
      rw [hk] at hp'
      dsimp only at hp'
      cases hy.plain (keyP_plain hk)
      rcases look_of hk h2 with ⟨_, z⟩ | ⟨v, c, z1, z2, z3⟩
      · rw [z] at hp'; cases hp'
      · rw [z2] at hp'
        cases hp'
        exact .inr (.inr (.inr ⟨a, v, rfl, .inl ⟨vs, k, h1, rfl, z1.symm⟩, q.here z3⟩))
  | _ => cases e <;> cases hp
/-- a[lo:hi] -/
def rSlW (K : Frg) : V → Option Int → Option Int → Hp → VK → Prop := fun x lo hi H Q => ∃ r d p, Vw K r H x d ∧ Trk r H ∧ slP d lo hi = some p ∧ Post K r H Q p
theorem sl_ok : SlR X (rSlW X.K) := by
  have base := (sl_list (X := X)).or ((sl_tupA (X := X)).or (sl_str (X := X)))
  intro pins s σ H x v vl vu lo hi sl Q I rx hs pl pu h
  refine base pins s σ H x v vl vu lo hi sl Q I rx hs pl pu ?_
  obtain ⟨r, d, p, hx, ht, hp, q⟩ := h
  cases d with
  | list ds =>
    obtain ⟨a, vs, rfl, h1, h2⟩ := hx.list
    cases hp
    exact .inl ⟨a, vs, rfl, h1, q.lst ht (h2.cut lo hi)⟩
  | tuple ds =>
    obtain ⟨a, vs, rfl, h1, h2⟩ := hx.tuple
    cases hp
    refine .inr (.inl ⟨a, vs, rfl, h1.sq, fun hw => ?_, fun _ => q.tup ht (h2.cut lo hi)⟩)
    have e : cutL ds lo hi = ds := by
      rw [h2.length] at hw
      unfold cutL
      rw [hw.1, hw.2]
      simp
    rw [e] at q
    exact q.here (.tup h1 h2)
  | str z =>
    cases hx.str
    simp only [slP] at hp
    split at hp
    · rename_i hz
      cases hp
      exact .inr (.inr ⟨z, rfl, hz, q.here (.str _)⟩)
    · cases hp
  | _ => cases hp

/-! ### calls of built-ins -/
def rCW (K : Frg) (g : List PD → Option PD) : List V → Hp → VK → Prop := fun vs H Q => ∃ r ds p, Vws K r H vs ds ∧ Trk r H ∧ g ds = some p ∧ Post K r H Q p
theorem imp_call {f : Value} {r r' : List V → Hp → VK → Prop} (h : CallR X f r) (i : ∀ vs H Q, r' vs H Q → r vs H Q) : CallR X f r' := fun pins s σ H xs us Q I rv q => h pins s σ H xs us Q I rv (i xs H Q q)
def lenP : List PD → Option PD
  | [.str z] => if z.length ≤ sizeLine then some (.int z.length) else none
  | [.list ds] => some (.int ds.length)
  | [.tuple ds] => some (.int ds.length)
  | _ => none
theorem len_ok : CallR X (.builtin "len") (rCW X.K lenP) := by
  refine imp_call (call_len_seq.or call_len_str) fun vs H Q h => ?_
  obtain ⟨r, ds, p, hv, ht, hp, q⟩ := h
  cases ds with
  | nil => cases hp
  | cons d ds =>
    cases ds with
    | cons _ _ => cases d <;> cases hp
    | nil =>
      obtain ⟨v, rfl, hx⟩ := hv.one
      cases d with
      | str z =>
        cases hx.str
        simp only [lenP] at hp
        split at hp
        · rename_i hz
          cases hp
          exact .inr ⟨z, rfl, hz, q.here (.int _)⟩
        · cases hp
      | list es =>
        obtain ⟨a, ys, rfl, h1, h2⟩ := hx.list
        cases hp
        exact .inl ⟨a, ys, rfl, .inl h1, by rw [h2.length]; exact q.here (.int _)⟩
      | tuple es =>
        obtain ⟨a, ys, rfl, h1, h2⟩ := hx.tuple
        cases hp
        exact .inl ⟨a, ys, rfl, .inr h1.sq, by rw [h2.length]; exact q.here (.int _)⟩
      | _ => cases hp
def absP : List PD → Option PD
  | [.int i] => some (.int (if i < 0 then -i else i))
  | _ => none
theorem abs_ok : CallR X (.builtin "abs") (rCW X.K absP) := by
  refine imp_call call_abs fun vs H Q h => ?_
  obtain ⟨r, ds, p, hv, ht, hp, q⟩ := h
  unfold absP at hp
  split at hp
  · obtain ⟨v, rfl, hx⟩ := hv.one
    cases hx.int
    cases hp
    exact ⟨_, rfl, q.here (.int _)⟩
  · cases hp
def intP : List PD → Option PD
  | [.int i] => some (.int i)
  | [.bool b] => some (.int (if b then 1 else 0))
  | _ => none
theorem int_ok : CallR X (.type "int") (rCW X.K intP) := by
  refine imp_call call_int1 fun vs H Q h => ?_
  obtain ⟨r, ds, p, hv, ht, hp, q⟩ := h
  unfold intP at hp
  split at hp
  · obtain ⟨v, rfl, hx⟩ := hv.one
    cases hx.int
    cases hp
    exact .inl ⟨_, rfl, q.here (.int _)⟩
  · obtain ⟨v, rfl, hx⟩ := hv.one
    cases hx.bool
    cases hp
    exact .inr ⟨_, rfl, q.here (.int _)⟩
  · cases hp
/-- the ints of a list -/
def intsP : List PD → Option (List Int)
  | [] => some []
  | .int i :: r => (intsP r).map (i :: ·)
  | _ => none
def boolsP : List PD → Option (List Bool)
  | [] => some []
  | .bool i :: r => (boolsP r).map (i :: ·)
  | _ => none
theorem rps_of_ints {K : Frg} {r : Rho} {H : Hp} : ∀ {ds : List PD} {ns : List Int} {ys : List V}, RPs K r H ys ds → intsP ds = some ns → ys = ns.map V.int
  | [], _, _, h, e => by cases h; cases e; rfl
  | d :: ds, ns, _, h, e => by
    cases h with
    | cons h1 h2 =>
      cases d <;> first
        | (cases e; done)
        | (cases h1
           simp only [intsP] at e
           cases q : intsP ds with
           | none => rw [q] at e; cases e
           | some ms =>
             rw [q] at e
             cases e
             rw [rps_of_ints h2 q]
             rfl)
theorem rps_of_bools {K : Frg} {r : Rho} {H : Hp} : ∀ {ds : List PD} {ns : List Bool} {ys : List V}, RPs K r H ys ds → boolsP ds = some ns → ys = ns.map V.bl
  | [], _, _, h, e => by cases h; cases e; rfl
  | d :: ds, ns, _, h, e => by
    cases h with
    | cons h1 h2 =>
      cases d <;> first
        | (cases e; done)
        | (cases h1
           simp only [boolsP] at e
           cases q : boolsP ds with
           | none => rw [q] at e; cases e
           | some ms =>
             rw [q] at e
             cases e
             rw [rps_of_bools h2 q]
             rfl)
def maxL : Int → List Int → Int
  | m, [] => m
  | m, n :: r => maxL (if n > m then n else m) r
def minL : Int → List Int → Int
  | m, [] => m
  | m, n :: r => minL (if n < m then n else m) r
theorem maxL_le : ∀ (m : Int) (l : List Int), m ≤ maxL m l ∧ ∀ y ∈ l, y ≤ maxL m l
  | m, [] => ⟨Int.le_refl _, fun _ h => by cases h⟩
  | m, n :: r => by
    obtain ⟨h1, h2⟩ := maxL_le (if n > m then n else m) r
    have h3 : m ≤ (if n > m then n else m) := by split <;> omega
    have h4 : n ≤ (if n > m then n else m) := by split <;> omega
    refine ⟨Int.le_trans h3 h1, fun y hy => ?_⟩
    rcases List.mem_cons.mp hy with rfl | hy
    · exact Int.le_trans h4 h1
    · exact h2 y hy
theorem maxL_mem : ∀ (m : Int) (l : List Int), maxL m l = m ∨ maxL m l ∈ l
  | m, [] => .inl rfl
  | m, n :: r => by
    show maxL (if n > m then n else m) r = m ∨ maxL (if n > m then n else m) r ∈ n :: r
    rcases maxL_mem (if n > m then n else m) r with h | h
    · rw [h]
      split
      · exact .inr List.mem_cons_self
      · exact .inl rfl
    · exact .inr (List.mem_cons_of_mem _ h)
theorem minL_le : ∀ (m : Int) (l : List Int), minL m l ≤ m ∧ ∀ y ∈ l, minL m l ≤ y
  | m, [] => ⟨Int.le_refl _, fun _ h => by cases h⟩
  | m, n :: r => by
    obtain ⟨h1, h2⟩ := minL_le (if n < m then n else m) r
    have h3 : (if n < m then n else m) ≤ m := by split <;> omega
    have h4 : (if n < m then n else m) ≤ n := by split <;> omega
    refine ⟨Int.le_trans h1 h3, fun y hy => ?_⟩
    rcases List.mem_cons.mp hy with rfl | hy
    · exact Int.le_trans h1 h4
    · exact h2 y hy
theorem minL_mem : ∀ (m : Int) (l : List Int), minL m l = m ∨ minL m l ∈ l
  | m, [] => .inl rfl
  | m, n :: r => by
    show minL (if n < m then n else m) r = m ∨ minL (if n < m then n else m) r ∈ n :: r
    rcases minL_mem (if n < m then n else m) r with h | h
    · rw [h]
      split
      · exact .inr List.mem_cons_self
      · exact .inl rfl
    · exact .inr (List.mem_cons_of_mem _ h)
def maxP : List PD → Option PD
  | [.int i, .int j] => some (.int (if j > i then j else i))
  | [.list ds] => match intsP ds with
    | some (n :: r) => some (.int (maxL n r))
    | _ => none
  | _ => none
def minP : List PD → Option PD
  | [.int i, .int j] => some (.int (if j < i then j else i))
  | [.list ds] => match intsP ds with
    | some (n :: r) => some (.int (minL n r))
    | _ => none
  | _ => none
theorem max_ok (hc : X.calm = true) : CallR X (.builtin "max") (rCW X.K maxP) := by
  refine imp_call ((call_max2 hc).or (cr_max hc)) fun vs H Q h => ?_
  obtain ⟨r, ds, p, hv, ht, hp, q⟩ := h
  unfold maxP at hp
  split at hp
  · obtain ⟨v, w, rfl, hx, hy⟩ := hv.two
    cases hx.int; cases hy.int
    cases hp
    exact .inl ⟨_, _, rfl, q.here (.int _)⟩
  · obtain ⟨v, rfl, hx⟩ := hv.one
    obtain ⟨a, ys, rfl, h1, h2⟩ := hx.list
    split at hp
    · rename_i n ns he
      cases hp
      have ey := rps_of_ints h2 he
      subst ey
      refine .inr ⟨a, n :: ns, rfl, h1, by simp, fun m hm hall => ?_⟩
      have e : m = maxL n ns := by
        obtain ⟨l1, l2⟩ := maxL_le n ns
        have hm1 : m ≤ maxL n ns := by
          rcases List.mem_cons.mp hm with rfl | hm
          · exact l1
          · exact l2 m hm
        have hm2 : maxL n ns ≤ m := by
          rcases maxL_mem n ns with z | z
          · rw [z]; exact hall n List.mem_cons_self
          · exact hall _ (List.mem_cons_of_mem _ z)
        omega
      subst e
      exact q.here (.int _)
    · cases hp
  · cases hp
theorem min_ok (hc : X.calm = true) : CallR X (.builtin "min") (rCW X.K minP) := by
  refine imp_call ((call_min2 hc).or (cr_min hc)) fun vs H Q h => ?_
  obtain ⟨r, ds, p, hv, ht, hp, q⟩ := h
  unfold minP at hp
  split at hp
  · obtain ⟨v, w, rfl, hx, hy⟩ := hv.two
    cases hx.int; cases hy.int
    cases hp
    exact .inl ⟨_, _, rfl, q.here (.int _)⟩
  · obtain ⟨v, rfl, hx⟩ := hv.one
    obtain ⟨a, ys, rfl, h1, h2⟩ := hx.list
    split at hp
    · rename_i n ns he
      cases hp
      have ey := rps_of_ints h2 he
      subst ey
      refine .inr ⟨a, n :: ns, rfl, h1, by simp, fun m hm hall => ?_⟩
      have e : m = minL n ns := by
        obtain ⟨l1, l2⟩ := minL_le n ns
        have hm1 : minL n ns ≤ m := by
          rcases List.mem_cons.mp hm with rfl | hm
          · exact l1
          · exact l2 m hm
        have hm2 : m ≤ minL n ns := by
          rcases minL_mem n ns with z | z
          · rw [z]; exact hall n List.mem_cons_self
          · exact hall _ (List.mem_cons_of_mem _ z)
        omega
      subst e
      exact q.here (.int _)
    · cases hp
  · cases hp
def sumP : List PD → Option PD
  | [.list ds] => (intsP ds).map fun ns => .int ns.sum
  | _ => none
def allP : List PD → Option PD
  | [.list ds] => (boolsP ds).map fun ns => .bool (ns.all id)
  | _ => none
def anyP : List PD → Option PD
  | [.list ds] => (boolsP ds).map fun ns => .bool (ns.any id)
  | _ => none
theorem sum_ok (hc : X.calm = true) : CallR X (.builtin "sum") (rCW X.K sumP) := by
  refine imp_call (cr_sum hc) fun vs H Q h => ?_
  obtain ⟨r, ds, p, hv, ht, hp, q⟩ := h
  unfold sumP at hp
  split at hp
  · rename_i es
    obtain ⟨v, rfl, hx⟩ := hv.one
    obtain ⟨a, ys, rfl, h1, h2⟩ := hx.list
    cases he : intsP es with
    | none => rw [he] at hp; cases hp
    | some ns =>
      rw [he] at hp
      cases hp
      have ey := rps_of_ints h2 he
      subst ey
      exact ⟨a, ns, rfl, h1, q.here (.int _)⟩
  · cases hp
theorem all_ok (hc : X.calm = true) : CallR X (.builtin "all") (rCW X.K allP) := by
  refine imp_call (cr_all hc) fun vs H Q h => ?_
  obtain ⟨r, ds, p, hv, ht, hp, q⟩ := h
  unfold allP at hp
  split at hp
  · rename_i es
    obtain ⟨v, rfl, hx⟩ := hv.one
    obtain ⟨a, ys, rfl, h1, h2⟩ := hx.list
    cases he : boolsP es with
    | none => rw [he] at hp; cases hp
    | some ns =>
      rw [he] at hp
      cases hp
      have ey := rps_of_bools h2 he
      subst ey
      exact ⟨a, ns, rfl, h1, q.here (.bl _)⟩
  · cases hp
theorem any_ok (hc : X.calm = true) : CallR X (.builtin "any") (rCW X.K anyP) := by
  refine imp_call (cr_any hc) fun vs H Q h => ?_
  obtain ⟨r, ds, p, hv, ht, hp, q⟩ := h
  unfold anyP at hp
  split at hp
  · rename_i es
    obtain ⟨v, rfl, hx⟩ := hv.one
    obtain ⟨a, ys, rfl, h1, h2⟩ := hx.list
    cases he : boolsP es with
    | none => rw [he] at hp; cases hp
    | some ns =>
      rw [he] at hp
      cases hp
      have ey := rps_of_bools h2 he
      subst ey
      exact ⟨a, ns, rfl, h1, q.here (.bl _)⟩
  · cases hp
def tupleP : List PD → Option PD
  | [.list ds] => some (.tuple ds)
  | [.tuple ds] => some (.tuple ds)
  | _ => none
theorem tuple_ok : CallR X (.type "tuple") (rCW X.K tupleP) := by
  refine imp_call call_tuple_of fun vs H Q h => ?_
  obtain ⟨r, ds, p, hv, ht, hp, q⟩ := h
  unfold tupleP at hp
  split at hp
  · obtain ⟨v, rfl, hx⟩ := hv.one
    obtain ⟨a, ys, rfl, h1, h2⟩ := hx.list
    cases hp
    exact ⟨a, ys, rfl, .inl ⟨h1, q.tup ht h2⟩⟩
  · obtain ⟨v, rfl, hx⟩ := hv.one
    obtain ⟨a, ys, rfl, h1, h2⟩ := hx.tuple
    cases hp
    exact ⟨a, ys, rfl, .inr ⟨h1.sq, q.here (.tup h1 h2)⟩⟩
  · cases hp
/-! ### repr -/
def reprP : List PD → Option PD
  | [d] => if SeqAt.shaped d = true ∧ d.showable = true ∧ d.shown.length ≤ sizeLine then some (.str d.shown) else none
  | _ => none
theorem repr_ok (hu : X.A.units + 65 < cLine) (hg : X.A.guards = some []) : CallR X (.builtin "repr") (rCW X.K reprP) := by
  intro pins s σ H xs us Q I rv h
  obtain ⟨r, ds, p, hv, ht, hp, q⟩ := h
  unfold reprP at hp
  split at hp
  · rename_i d
    split at hp
    · rename_i hz
      obtain ⟨v, rfl, hx⟩ := hv.one
      cases hp
      obtain ⟨u, rfl, ru⟩ := rv.one
      have q' : Q (.str d.shown) H := q.here (.str _)
      have refs : ∀ a, u = .ref a → v = .ref a → wpAny (model X.prog X.w) X.A (call (.builtin "repr") [u]) (EP X pins σ Q) X.xe s := by
        intro a hu1 hv1
        subst hu1
        obtain ⟨as, rd⟩ := Dp.reads I d v (.ref a) (hx.dp (SeqAt.canLay_of_shaped hz.1)) ru
        refine PySem.repr_of_reads' rd hz.2.1 (PyData.noDict_hsm (PyData.hasDict_of_canLay _ (SeqAt.canLay_of_shaped hz.1))) hg ?_ (fun _ _ e => e) (fun h' t tk hk => ?_) hz.2.2
        · have := SeqAt.depth_of_shaped hz.1
          omega
        · exact ⟨.str d.shown, H, I.kept hk, ⟨_, rfl⟩, q'⟩
      cases d with
      | none =>
        cases hx.non
        cases ru
        exact PySem.P.repr_of_none ⟨.str _, H, I.tok _, ⟨_, rfl⟩, q'⟩
      | bool b =>
        cases hx.bool
        cases ru
        exact PySem.P.repr_of_bool ⟨.str _, H, I.tok _, ⟨_, rfl⟩, q'⟩
      | int i =>
        cases hx.int
        obtain ⟨t, rfl⟩ := ru
        exact PySem.P.repr_of_int (by simpa [PyData.showable] using hz.2.1) ⟨.str _, H, I.tok _, ⟨_, rfl⟩, q'⟩
      | str x =>
        cases hx.str
        obtain ⟨t, rfl⟩ := ru
        exact PySem.P.repr_of_str ⟨.str _, H, I.tok _, ⟨_, rfl⟩, q'⟩ hz.2.2
      | list es =>
        obtain ⟨a, ys, rfl, h1, h2⟩ := hx.list
        cases ru
        exact refs a rfl rfl
      | tuple es =>
        obtain ⟨a, ys, rfl, h1, h2⟩ := hx.tuple
        cases ru
        exact refs a rfl rfl
      | dict es =>
        have := SeqAt.canLay_of_shaped hz.1
        simp [PyData.canLay0] at this
    · cases hp
  · cases hp
end
end Mi

/-! Mi: the instructions and what they mean, on plain data. -/
namespace Mi
open PySem

/-- an exception: its class, its fields -/
structure Xc where
  cls : Str
  fs : List (Str × PD)
inductive Res (α : Type) where
  | ok (a : α) (h : Hd)
  | exc (x : Xc) (h : Hd)
  | bad
def Res.bind {α β : Type} : Res α → (α → Hd → Res β) → Res β
  | .ok a h, f => f a h
  | .exc x h, _ => .exc x h
  | .bad, _ => .bad
/-- nothing may be raised -/
def Res.nox {α : Type} : Res α → Res α
  | .ok a h => .ok a h
  | _ => .bad
def ofO (h : Hd) : Option PD → Res D
  | some p => .ok (.dat p) h
  | none => .bad
/-- the built-in calls that give plain data -/
inductive Bl where
  | len | abs | int | max | min | sum | all | any | tuple | repr
def Bl.fn : Bl → List PD → Option PD
  | .len => lenP
  | .abs => absP
  | .int => intP
  | .max => maxP
  | .min => minP
  | .sum => sumP
  | .all => allP
  | .any => anyP
  | .tuple => tupleP
  | .repr => reprP
/-- classes that isinstance asks -/
inductive Cl where
  | int | bool | str | tuple | list | dict
def isiP : PD → Cl → Bool
  | .int _, .int => true
  | .bool _, .int => true
  | .bool _, .bool => true
  | .str _, .str => true
  | .tuple _, .tuple => true
  | .list _, .list => true
  | .dict _, .dict => true
  | _, _ => false
/-- methods of built-in objects -/
inductive Mt where
  | append | extend | pop | popAt | clear
/-! targets -/
mutual
inductive Pt where
  | nm (i : Nat)
  | tp (ps : Pts)
inductive Pts where
  | nil
  | cons (p : Pt) (r : Pts)
end
mutual
inductive E where
  | var (i : Nat)
  | con (d : PD)
  | glo (x : Str)
  | bin (op : Operator) (a b : E)
  | neg (a : E)
  | cmp (op : CmpOp) (a b : E)
  | cmp2 (op op' : CmpOp) (a b c : E)
  | boo (isAnd : Bool) (es : Es)
  | nt (a : E)
  | ife (c a b : E)
  | tup (es : Es)
  | lst (m : Bool) (es : Es)
  | ix (a b : E)
  | sl (m : Bool) (a : E) (lo hi : Eo)
  | call (f : Str) (es : Es)
  | blt (f : Bl) (es : Es)
  | lis (m : Bool) (a : E)
  | isi (a : E) (c : Cl)
  | mth (k : Mt) (o : E) (es : Es)
  | lc (m : Bool) (p : Pt) (it : Itr) (c : Eo) (e : E)
  | dnil
inductive Es where
  | nil
  | cons (e : E) (r : Es)
inductive Eo where
  | no
  | yes (e : E)
inductive Itr where
  | seq (e : E)
  | rng (es : Es)
  | enm (e : E)
end
mutual
inductive S where
  | asg (p : Pt) (e : E)
  | par (is : List Nat) (es : Es)
  | put (o i v : E)
  | aug (op : Operator) (i : Nat) (e : E)
  | exp (e : E)
  | ret (e : E)
  | retN
  | ifs (c : E) (a b : Ss)
  | whl (c : E) (b : Ss)
  | for (p : Pt) (it : Itr) (b : Ss)
  | pas
  | brk
  | cnt
  | stop
  | rse (cls fld : Str) (e : E)
  | tri (e : E) (cls fld : Str) (i : Nat)
inductive Ss where
  | nil
  | cons (s : S) (r : Ss)
end

/-! ### targets -/
mutual
def bindP : Pt → PD → Loc → Option Loc
  | .nm i, d, l => some (l.set i (some (.dat d)))
  | .tp ps, .tuple ds, l => bindPs ps ds l
  | .tp _, _, _ => none
def bindPs : Pts → List PD → Loc → Option Loc
  | .nil, [], l => some l
  | .cons p r, d :: ds, l => (bindP p d l).bind fun l' => bindPs r ds l'
  | _, _, _ => none
end
mutual
def Pt.slots : Pt → List Nat
  | .nm i => [i]
  | .tp ps => ps.slots
def Pts.slots : Pts → List Nat
  | .nil => []
  | .cons p r => p.slots ++ r.slots
end
/-- the data of plain values -/
def datsOf : List D → Option (List PD)
  | [] => some []
  | .dat d :: r => (datsOf r).map (d :: ·)
  | _ => none
/-- views of values -/
def rdsOf (h : Hd) : List D → Option (List PD)
  | [] => some []
  | d :: r => match rd h d, rdsOf h r with
    | some p, some ps => some (p :: ps)
    | _, _ => none
/-- a new list, plain or mutable -/
def mkL (m : Bool) (ds : List PD) (h : Hd) : Res D := if m then .ok (.ref h.length) (h ++ [.lst ds]) else .ok (.dat (.list ds)) h
/-- forget the block's own slots -/
def wipeL (l : Loc) : List Nat → Loc
  | [] => l
  | v :: vs => (wipeL l vs).set v none
/-- what a loop walks: the items, and (a mutable list's place) that it stays as it was -/
structure Walk where
  items : List PD
  src : Option (Nat × List PD)
def Walk.stays (w : Walk) (h : Hd) : Prop := ∀ n ds, w.src = some (n, ds) → h[n]? = some (.lst ds)
def enumFrom (i : Int) : List PD → List PD
  | [] => []
  | d :: r => .tuple [.int i, d] :: enumFrom (i + 1) r
def seqOf (h : Hd) : D → Option Walk
  | .dat (.list ds) => some ⟨ds, none⟩
  | .dat (.tuple ds) => some ⟨ds, none⟩
  | .dat (.str z) => some ⟨z.cps.toList.map fun c => .str ⟨#[c]⟩, none⟩
  | .scr ns => some ⟨ns.map .int, none⟩
  | .ref n => match h[n]? with
    | some (.lst ds) => some ⟨ds, some (n, ds)⟩
    | _ => none
  | _ => none
def rngOf : List PD → Option (List PD)
  | [.int j] => if -(2 ^ 62) ≤ j ∧ j < 2 ^ 62 then some ((List.range j.toNat).map fun (i : Nat) => .int (i : Int)) else none
  | [.int i, .int j] => if (-(2 ^ 62) ≤ i ∧ i < 2 ^ 62) ∧ (-(2 ^ 62) ≤ j ∧ j < 2 ^ 62) then some ((List.range (j - i).toNat).map fun (k : Nat) => .int (i + (k : Int))) else none
  | _ => none
open Classical in
/-- the turns of a comprehension -/
noncomputable def lcRun (p : Pt) (w : Walk) (tst : Loc → Hd → Res Bool) (elt : Loc → Hd → Res D) (l : Loc) : List PD → List PD → Hd → Res (List PD)
  | [], acc, h => if w.stays h then .ok acc h else .bad
  | d :: r, acc, h => if w.stays h then
      match bindP p d (wipeL l p.slots) with
      | none => .bad
      | some l' => (tst l' h).nox.bind fun b h1 => if b then (elt l' h1).nox.bind fun y h2 => match y with
          | .dat y => if acc.length < sizeLine then lcRun p w tst elt l r (acc ++ [y]) h2 else .bad
          | _ => .bad
        else lcRun p w tst elt l r acc h1
    else .bad
def isLst (h : Hd) : D → Bool
  | .ref n => match h[n]? with
    | some (.lst _) => true
    | _ => false
  | _ => false
/-- a method's answer and the list behind it -/
def lstRun (xs : List PD) (h : Hd) : Mt → List D → Option (PD × List PD)
  | .append, [.dat d] => if xs.length < sizeLine then some (.none, xs ++ [d]) else none
  | .extend, [d] => match rdx h d with
    | some (.list ys) => if xs.length + ys.length ≤ sizeLine then some (.none, xs ++ ys) else none
    | some (.tuple ys) => if xs.length + ys.length ≤ sizeLine then some (.none, xs ++ ys) else none
    | _ => none
  | .pop, [] => match xs[xs.length - 1]? with
    | some d => some (d, xs.dropLast)
    | none => none
  | .popAt, [.dat (.int i)] => if 0 ≤ i ∧ i < xs.length ∧ i < 2 ^ 63 then (xs[i.toNat]?).map fun d => (d, xs.eraseIdx i.toNat) else none
  | .clear, [] => some (.none, [])
  | _, _ => none
def mthRun (k : Mt) (o : D) (ds : List D) (h : Hd) : Res D := match o with
  | .ref n => match h[n]? with
    | some (.lst xs) => match lstRun xs h k ds with
      | some (d, zs) => .ok (.dat d) (h.set n (.lst zs))
      | none => .bad
    | _ => .bad
  | _ => .bad
section
variable (cf : Str → List D → Hd → Res D) (gc : Str → Option PD)
def truD (h : Hd) (x : D) : Res Bool := match (rd h x).bind truP with
  | some b => .ok b h
  | none => .bad
mutual
noncomputable def evE : E → Loc → Hd → Res D
  | .var i, l, h => match l[i]? with
    | some (some d) => .ok d h
    | _ => .bad
  | .con d, _, h => .ok (.dat d) h
  | .glo x, _, h => ofO h (gc x)
  | .bin op a b, l, h => (evE a l h).bind fun x h1 => (evE b l h1).bind fun y h2 => match rdx h2 x, rdx h2 y with
    | some p, some q => ofO h2 (binP op p q)
    | _, _ => .bad
  | .neg a, l, h => (evE a l h).bind fun x h1 => match x with
    | .dat (.int i) => .ok (.dat (.int (-i))) h1
    | _ => .bad
  | .cmp op a b, l, h => (evE a l h).bind fun x h1 => (evE b l h1).bind fun y h2 => match rd h2 x, rd h2 y with
    | some p, some q => ofO h2 (cmpP op p q)
    | _, _ => .bad
  | .cmp2 op op' a b c, l, h => (evE a l h).bind fun x h1 => (evE b l h1).bind fun y h2 => match rd h2 x, rd h2 y with
    | some p, some q => match cmpP op p q with
      | some (.bool true) => (evE c l h2).bind fun z h3 => match rd h3 y, rd h3 z with
        | some q', some s => ofO h3 (cmpP op' q' s)
        | _, _ => .bad
      | some (.bool false) => .ok (.dat (.bool false)) h2
      | _ => .bad
    | _, _ => .bad
  | .boo k es, l, h => evB k es l h
  | .nt a, l, h => (evE a l h).bind fun x h1 => (truD h1 x).bind fun b h2 => .ok (.dat (.bool (!b))) h2
  | .ife c a b, l, h => (evE c l h).bind fun x h1 => (truD h1 x).bind fun k h2 => if k then evE a l h2 else evE b l h2
  | .tup es, l, h => (evEs es l h).bind fun ds h1 => match datsOf ds with
    | some ps => if ps.length ≤ sizeLine then .ok (.dat (.tuple ps)) h1 else .bad
    | none => .bad
  | .lst m es, l, h => (evEs es l h).bind fun ds h1 => match datsOf ds with
    | some ps => if ps.length ≤ sizeLine then mkL m ps h1 else .bad
    | none => .bad
  | .ix a b, l, h => (evE a l h).bind fun x h1 => (evE b l h1).bind fun y h2 => match rd h2 x, rd h2 y with
    | some p, some q => ofO h2 (ixP p q)
    | _, _ => .bad
  | .sl m a lo hi, l, h => (evE a l h).bind fun x h1 => (evO lo l h1).bind fun i h2 => (evO hi l h2).bind fun j h3 => match rd h3 x with
    | some p => match slP p i j with
      | some (.list ds) => mkL m ds h3
      | q => if m then .bad else ofO h3 q
    | none => .bad
  | .call f es, l, h => (evEs es l h).bind fun ds h1 => cf f ds h1
  | .blt f es, l, h => (evEs es l h).bind fun ds h1 => match rdsOf h1 ds with
    | some ps => ofO h1 (f.fn ps)
    | none => .bad
  | .lis m a, l, h => (evE a l h).bind fun x h1 => match rd h1 x with
    | some (.list ds) => mkL m ds h1
    | some (.tuple ds) => mkL m ds h1
    | _ => .bad
  | .isi a c, l, h => (evE a l h).bind fun x h1 => match rd h1 x with
    | some p => .ok (.dat (.bool (isiP p c))) h1
    | none => .bad
  | .mth k o es, l, h => (evE o l h).bind fun x h1 => if isLst h1 x then (evEs es l h1).bind fun ds h2 => mthRun k x ds h2 else .bad
  | .lc m p it c e, l, h => (evI it l h).bind fun w h1 => (lcRun p w (evC c) (evE e) l w.items [] h1).bind fun ds h2 => mkL m ds h2
  | .dnil, _, h => .ok (.dat (.dict [])) h
noncomputable def evEs : Es → Loc → Hd → Res (List D)
  | .nil, _, h => .ok [] h
  | .cons e r, l, h => (evE e l h).bind fun x h1 => (evEs r l h1).bind fun xs h2 => .ok (x :: xs) h2
noncomputable def evB : Bool → Es → Loc → Hd → Res D
  | _, .nil, _, _ => .bad
  | k, .cons e r, l, h => match r with
    | .nil => evE e l h
    | .cons _ _ => (evE e l h).bind fun x h1 => (truD h1 x).bind fun b h2 => if b = k then evB k r l h2 else .ok x h2
/-- an optional index -/
noncomputable def evO : Eo → Loc → Hd → Res (Option Int)
  | .no, _, h => .ok none h
  | .yes e, l, h => (evE e l h).bind fun x h1 => match x with
    | .dat (.int i) => .ok (some i) h1
    | _ => .bad
/-- an optional test -/
noncomputable def evC : Eo → Loc → Hd → Res Bool
  | .no, _, h => .ok true h
  | .yes e, l, h => (evE e l h).bind fun x h1 => truD h1 x
noncomputable def evI : Itr → Loc → Hd → Res Walk
  | .seq e, l, h => (evE e l h).bind fun x h1 => match seqOf h1 x with
    | some w => .ok w h1
    | none => .bad
  | .rng es, l, h => (evEs es l h).bind fun ds h1 => match (datsOf ds).bind rngOf with
    | some ds => .ok ⟨ds, none⟩ h1
    | none => .bad
  | .enm e, l, h => (evE e l h).bind fun x h1 => match x with
    | .dat (.list ds) => .ok ⟨enumFrom 0 ds, none⟩ h1
    | _ => .bad
end

/-! ### statements -/
inductive Out where
  | nx (l : Loc) (h : Hd)
  | rt (d : D) (h : Hd)
  | bk (l : Loc) (h : Hd)
  | ct (l : Loc) (h : Hd)
  | exc (x : Xc) (l : Loc) (h : Hd)
  | bad
def Res.out {α : Type} (l : Loc) : Res α → (α → Hd → Out) → Out
  | .ok a h, f => f a h
  | .exc x h, _ => .exc x l h
  | .bad, _ => .bad
noncomputable def evT (e : E) (l : Loc) (h : Hd) : Res Bool := (evE cf gc e l h).bind fun x h1 => truD h1 x
def whileN (c : Loc → Hd → Res Bool) (b : Loc → Hd → Out) : Nat → Loc → Hd → Option Out
  | 0, _, _ => none
  | n + 1, l, h => match c l h with
    | .bad => some .bad
    | .exc x h1 => some (.exc x l h1)
    | .ok false h1 => some (.nx l h1)
    | .ok true h1 => match b l h1 with
      | .nx l2 h2 => whileN c b n l2 h2
      | .ct l2 h2 => whileN c b n l2 h2
      | .bk l2 h2 => some (.nx l2 h2)
      | .rt d h2 => some (.rt d h2)
      | .exc x l2 h2 => some (.exc x l2 h2)
      | .bad => some .bad
open Classical in
noncomputable def whileF (c : Loc → Hd → Res Bool) (b : Loc → Hd → Out) (l : Loc) (h : Hd) : Out :=
  if z : ∃ n o, whileN c b n l h = some o then z.choose_spec.choose else .bad
open Classical in
noncomputable def forRun (p : Pt) (w : Walk) (b : Loc → Hd → Out) : List PD → Loc → Hd → Out
  | [], l, h => if w.stays h then .nx l h else .bad
  | d :: r, l, h => if w.stays h then
      match bindP p d l with
      | none => .bad
      | some l1 => match b l1 h with
        | .nx l2 h2 => forRun p w b r l2 h2
        | .ct l2 h2 => forRun p w b r l2 h2
        | .bk l2 h2 => .nx l2 h2
        | .rt d h2 => .rt d h2
        | .exc x l2 h2 => .exc x l2 h2
        | .bad => .bad
    else .bad
/-- o[i] = v on a list -/
def putRun (h : Hd) (x y z : D) : Option Hd := match y with
  | .ref n => match h[n]? with
    | some (.lst xs) => match x with
      | .dat d => match z with
        | .dat (.int k) => (L2.ixN xs.length k).map fun j => h.set n (.lst (xs.set j d))
        | _ => none
      | _ => none
    | _ => none
  | _ => none
/-- a name's own operators -/
def augI (op : Operator) (a b : Int) : Option PD := match op with
  | .Add => some (.int (a + b))
  | .Sub => some (.int (a - b))
  | _ => none
def augP (op : Operator) (x y : D) : Option PD := match x with
  | .dat (.int a) => match y with
    | .dat (.int b) => augI op a b
    | _ => none
  | _ => none
def setAll : List Nat → List D → Loc → Option Loc
  | [], [], l => some l
  | i :: is, d :: ds, l => setAll is ds (l.set i (some d))
  | _, _, _ => none
/-- try: return e / except cls as i: return i.fld -/
def triRun (cls fld : Str) (i : Nat) (l : Loc) : Res D → Out
  | .ok x h1 => .rt x h1
  | .exc x h1 => if x.cls = cls ∧ i < l.length then match x.fs with
      | [(f, d)] => if f = fld then .rt (.dat d) h1 else .bad
      | _ => .bad
    else .bad
  | .bad => .bad
mutual
noncomputable def exS : S → Loc → Hd → Out
  | .asg p e, l, h => (evE cf gc e l h).out l fun x h1 => match p with
    | .nm i => .nx (l.set i (some x)) h1
    | .tp ps => match x with
      | .dat d => match bindP (.tp ps) d l with
        | some l' => .nx l' h1
        | none => .bad
      | _ => .bad
  | .par is es, l, h => (evEs cf gc es l h).out l fun ds h1 => match setAll is ds l with
    | some l' => .nx l' h1
    | none => .bad
  | .put o i v, l, h => (evE cf gc v l h).out l fun x h1 => (evE cf gc o l h1).out l fun y h2 => (evE cf gc i l h2).out l fun z h3 => match putRun h3 x y z with
    | some h4 => .nx l h4
    | none => .bad
  | .aug op i e, l, h => match l[i]? with
    | some (some x) => (evE cf gc e l h).out l fun y h1 => match augP op x y with
      | some z => .nx (l.set i (some (.dat z))) h1
      | none => .bad
    | _ => .bad
  | .exp e, l, h => (evE cf gc e l h).out l fun _ h1 => .nx l h1
  | .ret e, l, h => (evE cf gc e l h).out l fun x h1 => .rt x h1
  | .retN, _, h => .rt (.dat .none) h
  | .ifs c a b, l, h => (evT cf gc c l h).out l fun k h1 => if k then exSs a l h1 else exSs b l h1
  | .whl c b, l, h => whileF (evT cf gc c) (exSs b) l h
  | .for p it b, l, h => (evI cf gc it l h).out l fun w h1 => forRun p w (exSs b) w.items l h1
  | .pas, l, h => .nx l h
  | .brk, l, h => .bk l h
  | .cnt, l, h => .ct l h
  | .stop, _, _ => .bad
  | .rse cls fld e, l, h => (evE cf gc e l h).out l fun x h1 => match x with
    | .dat d => .exc ⟨cls, [(fld, d)]⟩ l h1
    | _ => .bad
  | .tri e cls fld i, l, h => triRun cls fld i l (evE cf gc e l h)
noncomputable def exSs : Ss → Loc → Hd → Out
  | .nil, l, h => .nx l h
  | .cons s r, l, h => match exS s l h with
    | .nx l1 h1 => exSs r l1 h1
    | o => o
end
/-- a def's end: what it made is forgotten; a mutable object that it hands back is plain from now on, or kept -/
def leave (keep : Bool) (n : Nat) (h : Hd) : D → Res D
  | .dat d => .ok (.dat d) (h.take n)
  | .scr ns => .ok (.scr ns) (h.take n)
  | .ref m => if m < n then .ok (.ref m) (h.take n) else match h[m]? with
    | some o => if keep then .ok (.ref n) (h.take n ++ [o]) else .ok (.dat o.py) (h.take n)
    | none => .bad
noncomputable def runDef (keep : Bool) (size : Nat) (body : Ss) (ds : List D) (h : Hd) : Res D := match exSs cf gc body (ds.map some ++ List.replicate (size - ds.length) none) h with
  | .nx _ h1 => .ok (.dat .none) (h1.take h.length)
  | .rt d h1 => leave keep h.length h1 d
  | .exc x _ h1 => .exc x (h1.take h.length)
  | _ => .bad
end
/-- a program: each def by its name, how many slots it has, how many parameters, its body -/
structure Def where
  size : Nat
  pars : Nat
  keep : Bool
  body : Ss
/-- calls, n deep -/
noncomputable def callN (gc : Str → Option PD) (P : Str → Option Def) : Nat → Str → List D → Hd → Res D
  | 0, _, _, _ => .bad
  | n + 1, f, ds, h => match P f with
    | some d => if ds.length = d.pars then runDef (callN gc P n) gc d.keep d.size d.body ds h else .bad
    | none => .bad
end Mi

/-! Mi: the layer's rules, read by what the instructions mean: expressions. -/
namespace Mi
open PySem PySem.Spec PyProof.Rows L2

/-- an exception of the data's world in the layer's -/
def RX (K : Frg) (ca : Str → Option Addr) (r : Rho) (H : Hp) (x : Xc) (cls : Value) (dd : Option Addr) : Prop :=
  ∃ C, ca x.cls = some C ∧ cls = .ref C ∧ ((x.fs = [] ∧ dd = none) ∨ ∃ d f v p, x.fs = [(f, p)] ∧ dd = some d ∧ Off r d ∧ H d = some (.xd [(f, v)]) ∧ RP K r H v p)
def Go (K : Frg) (ca : Str → Option Addr) (W : WX) (r : Rho) (H : Hp) (σ : L2.St) {α : Type} (x : Res α) (k : α → Hd → Rho → Hp → Prop) : Prop := match x with
  | .ok a h' => ∀ r' H', Ext r H r' H' → RH K r' H' h' → k a h' r' H'
  | .exc x h' => ∀ r' H', Ext r H r' H' → RH K r' H' h' → ∀ cls dd, RX K ca r' H' x cls dd → W cls dd σ H'
  | .bad => False
def kQ (K : Frg) (Q : VK) : D → Hd → Rho → Hp → Prop := fun d _ r H => ∀ v, RV K r H v d → Q v H
def tE (K : Frg) (ca : Str → Option Addr) (W : WX) (f : Loc → Hd → Res D) : TE := fun σ H Q => ∃ r l h, RL K r H l σ ∧ RH K r H h ∧ Go K ca W r H σ (f l h) (kQ K Q)
def kT (Q : Bool → Hp → Prop) : Bool → Hd → Rho → Hp → Prop := fun b _ _ H => Q b H
def tT (K : Frg) (ca : Str → Option Addr) (W : WX) (f : Loc → Hd → Res Bool) : TT := fun σ H Q => ∃ r l h, RL K r H l σ ∧ RH K r H h ∧ Go K ca W r H σ (f l h) (kT Q)
def kA (K : Frg) (Q : List V → Hp → Prop) : List D → Hd → Rho → Hp → Prop := fun ds _ r H => ∀ vs, RVs K r H vs ds → Q vs H
def tA (K : Frg) (ca : Str → Option Addr) (W : WX) (f : Loc → Hd → Res (List D)) : TA := fun σ H Q => ∃ r l h, RL K r H l σ ∧ RH K r H h ∧ Go K ca W r H σ (f l h) (kA K Q)
section
variable {K : Frg} {ca : Str → Option Addr} {W : WX} {r r' : Rho} {H H' : Hp} {σ : L2.St}
theorem Go.mono {α : Type} {x : Res α} {k : α → Hd → Rho → Hp → Prop} (g : Go K ca W r H σ x k) (e : Ext r H r' H') : Go K ca W r' H' σ x k := by
  cases x with
  | ok a h => exact fun r1 H1 e1 q => g r1 H1 (e.trans e1) q
  | exc x h => exact fun r1 H1 e1 q => g r1 H1 (e.trans e1) q
  | bad => exact g
theorem Go.bind {α β : Type} {x : Res α} {f : α → Hd → Res β} {k : β → Hd → Rho → Hp → Prop} (g : Go K ca W r H σ (x.bind f) k) :
    Go K ca W r H σ x fun a h' r' H' => Go K ca W r' H' σ (f a h') k := by
  cases x with
  | ok a h => exact fun r1 H1 e1 q => Go.mono (x := f a h) g e1
  | exc x h => exact g
  | bad => exact g
theorem Go.imp {α : Type} {x : Res α} {k k' : α → Hd → Rho → Hp → Prop} (g : Go K ca W r H σ x k) (i : ∀ a h' r' H', Ext r H r' H' → RH K r' H' h' → k a h' r' H' → k' a h' r' H') : Go K ca W r H σ x k' := by
  cases x with
  | ok a h => exact fun r1 H1 e1 q => i a h r1 H1 e1 q (g r1 H1 e1 q)
  | exc x h => exact g
  | bad => exact g
theorem Go.ok {α : Type} {a : α} {h : Hd} {k : α → Hd → Rho → Hp → Prop} (g : Go K ca W r H σ (.ok a h) k) (q : RH K r H h) : k a h r H := g r H (.refl r H) q
/-- a plain answer -/
theorem post_of {h : Hd} {o : Option PD} {Q : VK} (q : RH K r H h) (g : Go K ca W r H σ (ofO h o) (kQ K Q)) : ∃ p, o = some p ∧ Post K r H Q p := by
  cases o with
  | none => exact False.elim g
  | some p => exact ⟨p, rfl, fun v H1 s rp => g r H1 (.same q.tr s) (q.same s) v rp⟩
end
section
variable {X : Cx} {ca : Str → Option Addr} {W : WX} {a b c : Expr} {fa fb fc : Loc → Hd → Res D} {pos : Pos}
theorem pe_imp {e : Expr} {t t' : TE} (h : PE X e t) (i : ∀ σ H Q, t' σ H Q → t σ H Q) : PE X e t' := ⟨fun pins s σ H Q I w => h.run pins s σ H Q I (i σ H Q w)⟩
theorem pt_imp {e : Expr} {t t' : TT} (h : PT X e t) (i : ∀ σ H Q, t' σ H Q → t σ H Q) : PT X e t' := ⟨fun pins s σ H Q I w => h.run pins s σ H Q I (i σ H Q w)⟩
theorem pa_imp {e : List Expr} {t t' : TA} (h : PA X e t) (i : ∀ σ H Q, t' σ H Q → t σ H Q) : PA X e t' := ⟨fun pos pins s σ H Q I w => h.run pos pins s σ H Q I (i σ H Q w)⟩

theorem snd_var {i : Nat} {x : Str} (hN : X.N[i]? = some x) (hv : Vis X.env.scope x) (hd : (x == ("__debug__" : Str)) = false) (hcd : (x == ("__classdict__" : Str)) = false) :
    PE X (.Name x pos) (tE X.K ca W fun l h => match l[i]? with | some (some d) => .ok d h | _ => .bad) := by
  refine pe_imp (pe_var hN hv hd hcd) fun σ H Q ⟨r, l, h, rl, rh, g⟩ => ?_
  dsimp only at g
  split at g
  · rename_i d hd
    obtain ⟨v, h1, h2⟩ := rl.2 i d hd
    exact ⟨v, h1, g.ok rh v h2⟩
  · exact False.elim g
/-- the written constants -/
def conOk : PD → Const → Bool
  | .none, .none => true
  | .bool b, .bool c => b == c
  | .int i, .int j => i == j
  | .str x, .str y => x == y
  | _, _ => false
theorem snd_con {d : PD} {k : Const} {j : Nat} (e : conOk d k = true) : PE X (.Constant k j pos) (tE X.K ca W fun _ h => .ok (.dat d) h) := by
  cases d <;> cases k <;> first
    | (cases e; done)
    | exact pe_imp pe_non fun σ H Q ⟨r, l, h, rl, rh, g⟩ => g.ok rh _ .non
    | (have e' := beq_iff_eq.mp e; subst e'; exact pe_imp pe_bl fun σ H Q ⟨r, l, h, rl, rh, g⟩ => g.ok rh _ (RP.bl _))
    | (have e' := beq_iff_eq.mp e; subst e'; exact pe_imp pe_int fun σ H Q ⟨r, l, h, rl, rh, g⟩ => g.ok rh _ (RP.int _))
    | (have e' := beq_iff_eq.mp e; subst e'; exact pe_imp pe_str fun σ H Q ⟨r, l, h, rl, rh, g⟩ => g.ok rh _ (RP.str _))
theorem snd_glo {x : Str} {gc : Str → Option PD} (hg : Gl X x) (hc : ∀ d, gc x = some d → ∃ u v, X.mg x = some u ∧ RelV v u ∧ ∀ r H, RP X.K r H v d) (hs : (gc x).isSome = true) (hd : (x == ("__debug__" : Str)) = false) :
    PE X (.Name x pos) (tE X.K ca W fun _ h => ofO h (gc x)) := by
  cases e : gc x with
  | none => rw [e] at hs; cases hs
  | some d =>
    obtain ⟨u, v, h1, h2, h3⟩ := hc d e
    exact pe_imp (pe_glob hg h1 h2 hd) fun σ H Q ⟨r, l, h, rl, rh, g⟩ => g.ok rh v (h3 r H)
theorem snd_bin {op : Operator} (ha : PE X a (tE X.K ca W fa)) (hb : PE X b (tE X.K ca W fb)) :
    PE X (.BinOp a op b pos) (tE X.K ca W fun l h => (fa l h).bind fun x h1 => (fb l h1).bind fun y h2 => match rdx h2 x, rdx h2 y with
      | some p, some q => ofO h2 (binP op p q)
      | _, _ => .bad) := by
  refine pe_imp (pe_op (bin_ok op) ha hb) fun σ H Q ⟨r, l, h, rl, rh, g⟩ => ?_
  refine ⟨r, l, h, rl, rh, g.bind.imp fun x h1 r1 H1 e1 rh1 g1 v rv => ⟨r1, l, h1, rl.ext e1, rh1, g1.bind.imp fun y h2 r2 H2 e2 rh2 g2 u ru => ?_⟩⟩
  split at g2
  · rename_i p q ex ey
    obtain ⟨z, hz, po⟩ := post_of rh2 g2
    exact ⟨r2, p, q, z, vx_of rh2 (rv.ext e2) ex, vx_of rh2 ru ey, rh2.tr, hz, po⟩
  · exact False.elim g2
theorem snd_neg (ha : PE X a (tE X.K ca W fa)) :
    PE X (.UnaryOp .USub a pos) (tE X.K ca W fun l h => (fa l h).bind fun x h1 => match x with
      | .dat (.int i) => .ok (.dat (.int (-i))) h1
      | _ => .bad) := by
  refine pe_imp (pe_un un_neg ha) fun σ H Q ⟨r, l, h, rl, rh, g⟩ => ?_
  refine ⟨r, l, h, rl, rh, g.bind.imp fun x h1 r1 H1 e1 rh1 g1 v rv => ?_⟩
  split at g1
  · rename_i i
    have rv' : RP X.K r1 H1 v (.int i) := rv
    cases rv'
    exact ⟨i, rfl, g1.ok rh1 _ (RP.int _)⟩
  · exact False.elim g1
theorem snd_cmp {op : CmpOp} (hu : X.A.units + 65 < cLine) (hm : behindInMarks op b = false) (ha : PE X a (tE X.K ca W fa)) (hb : PE X b (tE X.K ca W fb)) :
    PE X (.Compare a [op] [b] pos) (tE X.K ca W fun l h => (fa l h).bind fun x h1 => (fb l h1).bind fun y h2 => match rd h2 x, rd h2 y with
      | some p, some q => ofO h2 (cmpP op p q)
      | _, _ => .bad) := by
  refine pe_imp (pe_cmpR (cmp_ok op hu) ha hb hm) fun σ H Q ⟨r, l, h, rl, rh, g⟩ => ?_
  refine ⟨r, l, h, rl, rh, g.bind.imp fun x h1 r1 H1 e1 rh1 g1 v rv => ⟨r1, l, h1, rl.ext e1, rh1, g1.bind.imp fun y h2 r2 H2 e2 rh2 g2 u ru => ?_⟩⟩
  split at g2
  · rename_i p q ex ey
    obtain ⟨z, hz, po⟩ := post_of rh2 g2
    exact ⟨r2, p, q, z, vw_of rh2 (rv.ext e2) ex, vw_of rh2 ru ey, rh2.tr, hz, po⟩
  · exact False.elim g2
/-- the answer of a comparison is a truth value -/
theorem cmp_bool {op : CmpOp} {d e p : PD} (h : cmpP op d e = some p) : ∃ b, p = .bool b := by
  cases op with
  | Eq =>
    simp only [cmpP, eqP] at h
    split at h
    · cases h; exact ⟨_, rfl⟩
    · split at h <;> cases h
      exact ⟨_, rfl⟩
  | NotEq =>
    simp only [cmpP, neP] at h
    split at h
    · cases h; exact ⟨_, rfl⟩
    · split at h <;> cases h
      exact ⟨_, rfl⟩
  | Lt => cases d <;> cases e <;> cases h <;> exact ⟨_, rfl⟩
  | LtE => cases d <;> cases e <;> cases h <;> exact ⟨_, rfl⟩
  | Gt => cases d <;> cases e <;> cases h <;> exact ⟨_, rfl⟩
  | GtE => cases d <;> cases e <;> cases h <;> exact ⟨_, rfl⟩
  | In => simp only [cmpP] at h; cases q : inP d e <;> rw [q] at h <;> cases h; exact ⟨_, rfl⟩
  | NotIn => simp only [cmpP] at h; cases q : inP d e <;> rw [q] at h <;> cases h; exact ⟨_, rfl⟩
  | Is => simp only [cmpP] at h; cases q : isP d e <;> rw [q] at h <;> cases h; exact ⟨_, rfl⟩
  | IsNot => simp only [cmpP] at h; cases q : isP d e <;> rw [q] at h <;> cases h; exact ⟨_, rfl⟩
/-- a comparison as a test -/
theorem snd_cmpT {op : CmpOp} (hu : X.A.units + 65 < cLine) (hm : behindInMarks op b = false) (ha : PE X a (tE X.K ca W fa)) (hb : PE X b (tE X.K ca W fb)) :
    PT X (.Compare a [op] [b] pos) (tT X.K ca W fun l h => ((fa l h).bind fun x h1 => (fb l h1).bind fun y h2 => match rd h2 x, rd h2 y with
      | some p, some q => ofO h2 (cmpP op p q)
      | _, _ => .bad).bind fun x h1 => truD h1 x) := by
  refine pt_imp (pt_cmpR (cmp_ok op hu) ha hb hm) fun σ H Q ⟨r, l, h, rl, rh, g⟩ => ?_
  refine ⟨r, l, h, rl, rh, g.bind.bind.imp fun x h1 r1 H1 e1 rh1 g1 v rv => ⟨r1, l, h1, rl.ext e1, rh1, g1.bind.imp fun y h2 r2 H2 e2 rh2 g2 u ru => ?_⟩⟩
  split at g2
  · rename_i p q ex ey
    cases hz : cmpP op p q with
    | none => rw [hz] at g2; exact False.elim g2
    | some z =>
      rw [hz] at g2
      obtain ⟨bb, rfl⟩ := cmp_bool hz
      refine ⟨r2, p, q, _, vw_of rh2 (rv.ext e2) ex, vw_of rh2 ru ey, rh2.tr, hz, fun w H3 s3 rp => ?_⟩
      cases rp
      exact ⟨bb, rfl, (g2 r2 H3 (.same rh2.tr s3) (rh2.same s3)).ok (rh2.same s3)⟩
  · exact False.elim g2
theorem snd_cmp2 {op op' : CmpOp} (hu : X.A.units + 65 < cLine) (hm : lastMarks [op, op'] [b, c] = false) (ha : PE X a (tE X.K ca W fa)) (hb : PE X b (tE X.K ca W fb)) (hc : PE X c (tE X.K ca W fc)) :
    PE X (.Compare a [op, op'] [b, c] pos) (tE X.K ca W fun l h => (fa l h).bind fun x h1 => (fb l h1).bind fun y h2 => match rd h2 x, rd h2 y with
      | some p, some q => match cmpP op p q with
        | some (.bool true) => (fc l h2).bind fun z h3 => match rd h3 y, rd h3 z with
          | some q', some s => ofO h3 (cmpP op' q' s)
          | _, _ => .bad
        | some (.bool false) => .ok (.dat (.bool false)) h2
        | _ => .bad
      | _, _ => .bad) := by
  refine pe_imp (pe_chain (cmp_ok op hu) (cmp_ok op' hu) ha hb hc hm) fun σ H Q ⟨r, l, h, rl, rh, g⟩ => ?_
  refine ⟨r, l, h, rl, rh, g.bind.imp fun x h1 r1 H1 e1 rh1 g1 v rv => ⟨r1, l, h1, rl.ext e1, rh1, g1.bind.imp fun y h2 r2 H2 e2 rh2 g2 u ru => ?_⟩⟩
  split at g2
  · rename_i p q ex ey
    split at g2
    · rename_i hz
      refine ⟨r2, p, q, _, vw_of rh2 (rv.ext e2) ex, vw_of rh2 ru ey, rh2.tr, hz, fun w H3 s3 rp => ?_⟩
      cases rp
      refine ⟨true, rfl, iteT ?_⟩
      have e3 : Ext r2 H2 r2 H3 := .same rh2.tr s3
      refine ⟨r2, l, h2, (rl.ext e1).ext (e2.trans e3), rh2.same s3, (g2.mono e3).bind.imp fun z h4 r4 H4 e4 rh4 g4 t rt => ?_⟩
      split at g4
      · rename_i q' s ey' ez
        obtain ⟨zz, hzz, po⟩ := post_of rh4 g4
        exact ⟨r4, q', s, zz, vw_of rh4 (ru.ext (e3.trans e4)) ey', vw_of rh4 rt ez, rh4.tr, hzz, po⟩
      · exact False.elim g4
    · rename_i hz
      refine ⟨r2, p, q, _, vw_of rh2 (rv.ext e2) ex, vw_of rh2 ru ey, rh2.tr, hz, fun w H3 s3 rp => ?_⟩
      cases rp
      exact ⟨false, rfl, iteF (g2 r2 H3 (.same rh2.tr s3) (rh2.same s3) _ (RP.bl false))⟩
    · exact False.elim g2
  · exact False.elim g2
theorem snd_cmp2T {op op' : CmpOp} (hu : X.A.units + 65 < cLine) (hm : lastMarks [op, op'] [b, c] = false) (ha : PE X a (tE X.K ca W fa)) (hb : PE X b (tE X.K ca W fb)) (hc : PE X c (tE X.K ca W fc)) :
    PT X (.Compare a [op, op'] [b, c] pos) (tT X.K ca W fun l h => ((fa l h).bind fun x h1 => (fb l h1).bind fun y h2 => match rd h2 x, rd h2 y with
      | some p, some q => match cmpP op p q with
        | some (.bool true) => (fc l h2).bind fun z h3 => match rd h3 y, rd h3 z with
          | some q', some s => ofO h3 (cmpP op' q' s)
          | _, _ => .bad
        | some (.bool false) => .ok (.dat (.bool false)) h2
        | _ => .bad
      | _, _ => .bad).bind fun x h1 => truD h1 x) := by
  refine pt_imp (pt_chain (cmp_ok op hu) (cmp_ok op' hu) ha hb hc hm) fun σ H Q ⟨r, l, h, rl, rh, g⟩ => ?_
  refine ⟨r, l, h, rl, rh, g.bind.bind.imp fun x h1 r1 H1 e1 rh1 g1 v rv => ⟨r1, l, h1, rl.ext e1, rh1, g1.bind.imp fun y h2 r2 H2 e2 rh2 g2 u ru => ?_⟩⟩
  split at g2
  · rename_i p q ex ey
    split at g2
    · rename_i hz
      refine ⟨r2, p, q, _, vw_of rh2 (rv.ext e2) ex, vw_of rh2 ru ey, rh2.tr, hz, fun w H3 s3 rp => ?_⟩
      cases rp
      refine ⟨true, rfl, iteT ?_⟩
      have e3 : Ext r2 H2 r2 H3 := .same rh2.tr s3
      refine ⟨r2, l, h2, (rl.ext e1).ext (e2.trans e3), rh2.same s3, (g2.mono e3).bind.imp fun z h4 r4 H4 e4 rh4 g4 t rt => ?_⟩
      split at g4
      · rename_i q' s ey' ez
        cases hy : cmpP op' q' s with
        | none => rw [hy] at g4; exact False.elim g4
        | some zz =>
          rw [hy] at g4
          obtain ⟨bb, rfl⟩ := cmp_bool hy
          refine ⟨r4, q', s, _, vw_of rh4 (ru.ext (e3.trans e4)) ey', vw_of rh4 rt ez, rh4.tr, hy, fun w H5 s5 rp => ?_⟩
          cases rp
          exact ⟨bb, rfl, (g4 r4 H5 (.same rh4.tr s5) (rh4.same s5)).ok (rh4.same s5)⟩
      · exact False.elim g4
    · rename_i hz
      refine ⟨r2, p, q, _, vw_of rh2 (rv.ext e2) ex, vw_of rh2 ru ey, rh2.tr, hz, fun w H3 s3 rp => ?_⟩
      cases rp
      exact ⟨false, rfl, iteF ⟨false, rfl, (g2 r2 H3 (.same rh2.tr s3) (rh2.same s3)).ok (rh2.same s3)⟩⟩
    · exact False.elim g2
  · exact False.elim g2
/-- truth -/
theorem tru_of {K : Frg} {r : Rho} {H : Hp} {σ : L2.St} {h : Hd} {v : V} {d : D} {k : Bool → Hd → Rho → Hp → Prop} (rh : RH K r H h) (rv : RV K r H v d) (g : Go K ca W r H σ (truD h d) k) : ∃ b, TruV K v H b ∧ truD h d = .ok b h ∧ k b h r H := by
  unfold truD at g ⊢
  cases e : rd h d with
  | none => rw [e] at g; exact False.elim g
  | some p =>
    rw [e] at g
    cases e2 : truP p with
    | none => simp only [Option.bind, e2] at g; exact False.elim g
    | some b =>
      simp only [Option.bind, e2] at g ⊢
      exact ⟨b, tru_by (vw_of rh rv e) e2, rfl, g.ok rh⟩
theorem snd_not (ha : PE X a (tE X.K ca W fa)) :
    PE X (.UnaryOp .Not a pos) (tE X.K ca W fun l h => (fa l h).bind fun x h1 => (truD h1 x).bind fun b h2 => .ok (.dat (.bool (!b))) h2) := by
  refine pe_imp (pe_notT ha) fun σ H Q ⟨r, l, h, rl, rh, g⟩ => ?_
  refine ⟨r, l, h, rl, rh, g.bind.imp fun x h1 r1 H1 e1 rh1 g1 v rv => ?_⟩
  obtain ⟨b, h2, _, g2⟩ := tru_of rh1 rv g1.bind
  exact ⟨b, h2, g2.ok rh1 _ (RP.bl _)⟩
/-- any expression whose test is its value's truth -/
theorem snd_test (ha : PE X a (tE X.K ca W fa)) (he : ∀ whole, isTrue a X.env whole = (do let v ← whole; standAt a.pos; holding [v] (truthy v))) :
    PT X a (tT X.K ca W fun l h => (fa l h).bind fun x h1 => truD h1 x) := by
  refine pt_imp (pt_truth ha he) fun σ H Q ⟨r, l, h, rl, rh, g⟩ => ?_
  refine ⟨r, l, h, rl, rh, g.bind.imp fun x h1 r1 H1 e1 rh1 g1 v rv => ?_⟩
  obtain ⟨b, h2, _, g2⟩ := tru_of rh1 rv g1
  exact ⟨b, h2, g2⟩
theorem snd_notT {ft : Loc → Hd → Res Bool} (ha : PT X a (tT X.K ca W ft)) : PT X (.UnaryOp .Not a pos) (tT X.K ca W fun l h => (ft l h).bind fun b h1 => .ok (!b) h1) := by
  refine pt_imp (pt_not ha) fun σ H Q ⟨r, l, h, rl, rh, g⟩ => ?_
  exact ⟨r, l, h, rl, rh, g.bind.imp fun b h1 r1 H1 e1 rh1 g1 => g1.ok rh1⟩
theorem snd_ife {ft : Loc → Hd → Res Bool} (hc : PT X c (tT X.K ca W ft)) (ha : PE X a (tE X.K ca W fa)) (hb : PE X b (tE X.K ca W fb)) :
    PE X (.IfExp c a b pos) (tE X.K ca W fun l h => (ft l h).bind fun k h2 => if k then fa l h2 else fb l h2) := by
  refine pe_imp (pe_ifExp hc ha hb) fun σ H Q ⟨r, l, h, rl, rh, g⟩ => ?_
  refine ⟨r, l, h, rl, rh, g.bind.imp fun k h1 r1 H1 e1 rh1 g1 => ?_⟩
  cases k with
  | true => exact iteT (B := tE X.K ca W fb σ H1 Q) ⟨r1, l, h1, rl.ext e1, rh1, g1⟩
  | false => exact iteF (A := tE X.K ca W fa σ H1 Q) ⟨r1, l, h1, rl.ext e1, rh1, g1⟩
/-- argument lists -/
theorem snd_nil : PA X [] (tA X.K ca W fun _ h => .ok [] h) := pa_imp pa_nil fun σ H Q ⟨r, l, h, rl, rh, g⟩ => g.ok rh [] .nil
theorem snd_cons {es : List Expr} {fs : Loc → Hd → Res (List D)} (ha : PE X a (tE X.K ca W fa)) (hr : PA X es (tA X.K ca W fs)) (hs : starEach (a :: es) X.env = (false, eval a X.env) :: starEach es X.env) :
    PA X (a :: es) (tA X.K ca W fun l h => (fa l h).bind fun x h1 => (fs l h1).bind fun xs h2 => .ok (x :: xs) h2) := by
  refine pa_imp (pa_cons ha hr hs) fun σ H Q ⟨r, l, h, rl, rh, g⟩ => ?_
  exact ⟨r, l, h, rl, rh, g.bind.imp fun x h1 r1 H1 e1 rh1 g1 v rv => ⟨r1, l, h1, rl.ext e1, rh1, g1.bind.imp fun xs h2 r2 H2 e2 rh2 g2 vs rvs => g2.ok rh2 (v :: vs) (.cons (rv.ext e2) rvs)⟩⟩
theorem dats_rps {K : Frg} {r : Rho} {H : Hp} : ∀ {ds : List D} {ps : List PD} {vs : List V}, RVs K r H vs ds → datsOf ds = some ps → RPs K r H vs ps
  | [], _, _, h, e => by cases h; cases e; exact .nil
  | d :: ds, ps, _, h, e => by
    cases h with
    | cons h1 h2 =>
      cases d with
      | dat d =>
        simp only [datsOf] at e
        cases q : datsOf ds with
        | none => rw [q] at e; cases e
        | some qs =>
          rw [q] at e
          cases e
          exact .cons h1 (dats_rps h2 q)
      | _ => cases e
theorem rds_vws {K : Frg} {r : Rho} {H : Hp} {h : Hd} (rh : RH K r H h) : ∀ {ds : List D} {ps : List PD} {vs : List V}, RVs K r H vs ds → rdsOf h ds = some ps → Vws K r H vs ps
  | [], _, _, q, e => by cases q; cases e; exact .nil
  | d :: ds, ps, _, q, e => by
    cases q with
    | cons h1 h2 =>
      simp only [rdsOf] at e
      split at e
      · rename_i p qs e1 e2
        cases e
        exact .cons (vw_of rh h1 e1) (rds_vws rh h2 e2)
      · cases e
theorem snd_tup {es : List Expr} {k : Nat} {fs : Loc → Hd → Res (List D)} (hr : PA X es (tA X.K ca W fs)) :
    PE X (.Tuple es k pos) (tE X.K ca W fun l h => (fs l h).bind fun ds h1 => match datsOf ds with
      | some ps => if ps.length ≤ sizeLine then .ok (.dat (.tuple ps)) h1 else .bad
      | none => .bad) := by
  refine pe_imp (pe_tup hr) fun σ H Q ⟨r, l, h, rl, rh, g⟩ => ?_
  refine ⟨r, l, h, rl, rh, g.bind.imp fun ds h1 r1 H1 e1 rh1 g1 vs rvs => ?_⟩
  split at g1
  · rename_i ps he
    split at g1
    · rename_i hz
      have rp := dats_rps rvs he
      refine ⟨by rw [rp.length]; exact hz, fun p hp => ?_⟩
      exact g1 r1 _ (.same rh1.tr (same_new hp)) (rh1.same (same_new hp)) _ (RP.tup (.inl ⟨.inl upd_same, rh1.fresh hp⟩) (rp.sm (same_new hp)))
    · exact False.elim g1
  · exact False.elim g1
/-- a new list: plain, or an object of the heap -/
theorem new_list {K : Frg} {r : Rho} {H : Hp} {σ : L2.St} {h : Hd} {m : Bool} {ds : List PD} {ys : List V} {Q : VK} (rh : RH K r H h) (rp : RPs K r H ys ds) (g : Go K ca W r H σ (mkL m ds h) (kQ K Q)) : ∀ p, H p = none → Q (.ref p) (upd H p (.lst ys)) := by
  intro p hp
  cases m with
  | false => exact g r _ (.same rh.tr (same_new hp)) (rh.same (same_new hp)) _ (RP.lst upd_same (rh.fresh hp) (rp.sm (same_new hp)))
  | true =>
    have e : Ext r H (r.push p) (upd H p (.lst ys)) := .newM rh.tr hp
    refine g (r.push p) _ e (rh.new hp ⟨ys, upd_same, rp.ext e⟩) _ ⟨p, ?_, rfl⟩
    rw [← rh.len]
    simp [Rho.push]
theorem snd_lst {m : Bool} {es : List Expr} {fs : Loc → Hd → Res (List D)} (hr : PA X es (tA X.K ca W fs)) :
    PE X (.List es pos) (tE X.K ca W fun l h => (fs l h).bind fun ds h1 => match datsOf ds with
      | some ps => if ps.length ≤ sizeLine then mkL m ps h1 else .bad
      | none => .bad) := by
  refine pe_imp (pe_lst hr) fun σ H Q ⟨r, l, h, rl, rh, g⟩ => ?_
  refine ⟨r, l, h, rl, rh, g.bind.imp fun ds h1 r1 H1 e1 rh1 g1 vs rvs => ?_⟩
  split at g1
  · rename_i ps he
    split at g1
    · rename_i hz
      have rp := dats_rps rvs he
      exact ⟨by rw [rp.length]; exact hz, new_list rh1 rp g1⟩
    · exact False.elim g1
  · exact False.elim g1
theorem snd_ix (hu : X.A.units + 1 < cLine) (hs : PlainIx b) (ha : PE X a (tE X.K ca W fa)) (hb : PE X b (tE X.K ca W fb)) :
    PE X (.Subscript a b pos) (tE X.K ca W fun l h => (fa l h).bind fun x h1 => (fb l h1).bind fun y h2 => match rd h2 x, rd h2 y with
      | some p, some q => ofO h2 (ixP p q)
      | _, _ => .bad) := by
  refine pe_imp (pe_ix (ix_ok hu) ha hb hs) fun σ H Q ⟨r, l, h, rl, rh, g⟩ => ?_
  refine ⟨r, l, h, rl, rh, g.bind.imp fun x h1 r1 H1 e1 rh1 g1 v rv => ⟨r1, l, h1, rl.ext e1, rh1, g1.bind.imp fun y h2 r2 H2 e2 rh2 g2 u ru => ?_⟩⟩
  split at g2
  · rename_i p q ex ey
    obtain ⟨z, hz, po⟩ := post_of rh2 g2
    exact ⟨r2, p, q, z, vw_of rh2 (rv.ext e2) ex, vw_of rh2 ru ey, rh2.tr, hz, po⟩
  · exact False.elim g2
end
end Mi

/-! Mi: slices, calls, isinstance, methods, and/or, targets. -/
namespace Mi
open PySem PySem.Spec PyProof.Rows L2

section
variable {X : Cx} {ca : Str → Option Addr} {W : WX} {a b c : Expr} {fa fb fc : Loc → Hd → Res D} {pos : Pos}
/-! ### slices -/
def tO (K : Frg) (ca : Str → Option Addr) (W : WX) (f : Loc → Hd → Res (Option Int)) : TO := fun σ H Q => ∃ r l h, RL K r H l σ ∧ RH K r H h ∧ Go K ca W r H σ (f l h) (fun o _ _ H => Q o H)
theorem po_imp {e : Option Expr} {t t' : TO} (h : PO X e t) (i : ∀ σ H Q, t' σ H Q → t σ H Q) : PO X e t' := ⟨fun pins s σ H Q I w => h.run pins s σ H Q I (i σ H Q w)⟩
theorem snd_noPart : PO X none (tO X.K ca W fun _ h => .ok none h) := po_imp po_none fun σ H Q ⟨r, l, h, rl, rh, g⟩ => g.ok rh
theorem snd_part (ha : PE X a (tE X.K ca W fa)) : PO X (some a) (tO X.K ca W fun l h => (fa l h).bind fun x h1 => match x with
    | .dat (.int i) => .ok (some i) h1
    | _ => .bad) := by
  refine po_imp (po_some ha) fun σ H Q ⟨r, l, h, rl, rh, g⟩ => ?_
  refine ⟨r, l, h, rl, rh, g.bind.imp fun x h1 r1 H1 e1 rh1 g1 v rv => ?_⟩
  split at g1
  · rename_i i
    have rv' : RP X.K r1 H1 v (.int i) := rv
    cases rv'
    exact ⟨i, rfl, g1.ok rh1⟩
  · exact False.elim g1
theorem snd_sl {m : Bool} {lo hi : Option Expr} {p2 : Pos} {fl fh : Loc → Hd → Res (Option Int)} (ha : PE X a (tE X.K ca W fa)) (hl : PO X lo (tO X.K ca W fl)) (hh : PO X hi (tO X.K ca W fh)) :
    PE X (.Subscript a (.Slice lo hi none p2) pos) (tE X.K ca W fun l h => (fa l h).bind fun x h1 => (fl l h1).bind fun i h2 => (fh l h2).bind fun j h3 => match rd h3 x with
      | some p => match slP p i j with
        | some (.list ds) => mkL m ds h3
        | q => if m then .bad else ofO h3 q
      | none => .bad) := by
  refine pe_imp (pe_slice ((sl_list (X := X)).or (sl_ok (X := X))) ha hl hh) fun σ H Q ⟨r, l, h, rl, rh, g⟩ => ?_
  refine ⟨r, l, h, rl, rh, g.bind.imp fun x h1 r1 H1 e1 rh1 g1 v rv => ⟨r1, l, h1, rl.ext e1, rh1, g1.bind.imp fun i h2 r2 H2 e2 rh2 g2 => ⟨r2, l, h2, (rl.ext e1).ext e2, rh2, g2.bind.imp fun j h3 r3 H3 e3 rh3 g3 => ?_⟩⟩⟩
  have rv3 := rv.ext (e2.trans e3)
  split at g3
  · rename_i p ex
    have vw := vw_of rh3 rv3 ex
    split at g3
    · rename_i ds hs
      cases p with
      | list es =>
        obtain ⟨q, ys, rfl, h4, h5⟩ := vw.list
        cases hs
        exact .inl ⟨q, ys, rfl, h4, new_list rh3 (h5.cut i j) g3⟩
      | tuple es => cases hs
      | str z => simp only [slP] at hs; split at hs <;> cases hs
      | _ => cases hs
    · cases m with
      | true => exact False.elim g3
      | false =>
        obtain ⟨z, hz, po⟩ := post_of rh3 g3
        exact .inr ⟨r3, p, z, vw, rh3.tr, hz, po⟩
  · exact False.elim g3

/-! ### calls -/
/-- the promise of a def: what the data's world says -/
def spD (K : Frg) (ca : Str → Option Addr) (n : Nat) (F : List D → Hd → Res D) : Sp := fun vs H Q E => ∃ r h ds, RVs K r H vs ds ∧ RH K r H h ∧ ds.length = n ∧ match F ds h with
  | .ok d h' => ∀ v r' H', Ext r H r' H' → RH K r' H' h' → RV K r' H' v d → Q v H'
  | .exc x h' => ∀ H' cls dd, Ext r H r H' → RH K r H' h' → RX K ca r H' x cls dd → E cls dd H'
  | .bad => False
theorem any_star {es : List Expr} {env : Env} {pos : Pos} (h : ∀ e ∈ es, ∀ x p, e ≠ .Starred x p) : (backTo pos (starEach es env)).any (·.1) = false := by
  induction es with
  | nil => rfl
  | cons e es ih =>
    have e1 : starEach (e :: es) env = (false, eval e env) :: starEach es env := by
      cases e <;> first | rfl | exact absurd rfl (h _ List.mem_cons_self _ _)
    rw [e1]
    show (false || (backTo pos (starEach es env)).any (·.1)) = false
    rw [ih fun e he => h e (List.mem_cons_of_mem _ he)]
    rfl
theorem one_star {e : Expr} {es : List Expr} {env : Env} (h : ∀ x p, e ≠ .Starred x p) : starEach (e :: es) env = (false, eval e env) :: starEach es env := by
  cases e <;> first | rfl | exact absurd rfl (h _ _)
theorem all_star {es : List Expr} {env : Env} {pos : Pos} (h : ∀ e ∈ es, ∀ x p, e ≠ .Starred x p) : (backTo pos (starEach es env)).all (fun x => !x.1) = true := by
  induction es with
  | nil => rfl
  | cons e es ih =>
    rw [one_star (h e List.mem_cons_self)]
    show (!false && (backTo pos (starEach es env)).all (fun x => !x.1)) = true
    rw [ih fun e he => h e (List.mem_cons_of_mem _ he)]
    rfl
theorem snd_call {k n : Nat} {f : Addr} {fd : FuncData} {ps : List Str} {x : Str} {p : Pos} {e : Expr} {es : List Expr} {fs : Loc → Hd → Res (List D)} {F : List D → Hd → Res D}
    (FO : FnG X.prog X.w X.K X.mg X.base k f fd ps (spD X.K ca n F)) (hq : X.A.guards = some []) (hr : Room k X.A) (hg : Gl X x) (hm : X.mg x = some (.ref f)) (hk : PySem.W.keepIn X.K (.ref f) = true) (hb : Binds X.K fd ps []) (tk : Takes X W)
    (hl : ∀ ds h, ds.length ≠ n → F ds h = .bad) (ha : PA X (e :: es) (tA X.K ca W fs)) (hdb : (x == ("__debug__" : Str)) = false) (hst : ∀ y ∈ e :: es, ∀ x p, y ≠ .Starred x p) :
    PE X (.Call (.Name x p) (e :: es) [] pos) (tE X.K ca W fun l h => (fs l h).bind fun ds h1 => F ds h1) := by
  refine pe_imp (pe_callG FO hq hr hg hm hk hb tk ha hdb (one_star (hst e List.mem_cons_self)) (any_star fun y hy => hst y (List.mem_cons_of_mem _ hy))) fun σ H Q ⟨r, l, h, rl, rh, g⟩ => ?_
  refine ⟨r, l, h, rl, rh, g.bind.imp fun ds h1 r1 H1 e1 rh1 g1 vs rvs => ?_⟩
  refine ⟨r1, h1, ds, rvs, rh1, ?_, ?_⟩
  · refine Decidable.byContradiction fun hne => ?_
    rw [hl ds h1 hne] at g1
    exact g1
  · cases hF : F ds h1 with
    | ok d h' =>
      rw [hF] at g1
      exact fun v r' H' e' rh' rv => g1 r' H' e' rh' v rv
    | exc x h' =>
      rw [hF] at g1
      exact fun H' cls dd e' rh' rx => g1 r1 H' e' rh' cls dd rx
    | bad =>
      rw [hF] at g1
      exact g1
theorem snd_blt {id : String} {x : Str} {g0 : List PD → Option PD} {p : Pos} {e : Expr} {es : List Expr} {fs : Loc → Hd → Res (List D)} (hc : CallR X (.builtin id) (rCW X.K g0)) (hg : Gl X x) (hm : X.mg x = none) (hv : bootBuiltins x = some (.builtin id))
    (ha : PA X (e :: es) (tA X.K ca W fs)) (hn : x ≠ "__name__") (hdb : (x == ("__debug__" : Str)) = false) (hst : ∀ y ∈ e :: es, ∀ x p, y ≠ .Starred x p) :
    PE X (.Call (.Name x p) (e :: es) [] pos) (tE X.K ca W fun l h => (fs l h).bind fun ds h1 => match rdsOf h1 ds with
      | some ps => ofO h1 (g0 ps)
      | none => .bad) := by
  refine pe_imp (pe_callB hc hg hm hv ha hn hdb (one_star (hst e List.mem_cons_self)) (any_star fun y hy => hst y (List.mem_cons_of_mem _ hy))) fun σ H Q ⟨r, l, h, rl, rh, g⟩ => ?_
  refine ⟨r, l, h, rl, rh, g.bind.imp fun ds h1 r1 H1 e1 rh1 g1 vs rvs => ?_⟩
  split at g1
  · rename_i ps he
    obtain ⟨z, hz, po⟩ := post_of rh1 g1
    exact ⟨r1, ps, z, rds_vws rh1 rvs he, rh1.tr, hz, po⟩
  · exact False.elim g1
theorem snd_bltTy {T : String} {x : Str} {g0 : List PD → Option PD} {p : Pos} {e : Expr} {es : List Expr} {fs : Loc → Hd → Res (List D)} (hc : CallR X (.type T) (rCW X.K g0)) (hg : Gl X x) (hm : X.mg x = none) (hv : bootBuiltins x = some (.type T))
    (ha : PA X (e :: es) (tA X.K ca W fs)) (hn : x ≠ "__name__") (hdb : (x == ("__debug__" : Str)) = false) (hst : ∀ y ∈ e :: es, ∀ x p, y ≠ .Starred x p) :
    PE X (.Call (.Name x p) (e :: es) [] pos) (tE X.K ca W fun l h => (fs l h).bind fun ds h1 => match rdsOf h1 ds with
      | some ps => ofO h1 (g0 ps)
      | none => .bad) := by
  refine pe_imp (pe_callTy hc hg hm hv ha hn hdb (one_star (hst e List.mem_cons_self)) (any_star fun y hy => hst y (List.mem_cons_of_mem _ hy))) fun σ H Q ⟨r, l, h, rl, rh, g⟩ => ?_
  refine ⟨r, l, h, rl, rh, g.bind.imp fun ds h1 r1 H1 e1 rh1 g1 vs rvs => ?_⟩
  split at g1
  · rename_i ps he
    obtain ⟨z, hz, po⟩ := post_of rh1 g1
    exact ⟨r1, ps, z, rds_vws rh1 rvs he, rh1.tr, hz, po⟩
  · exact False.elim g1
/-- list(a) -/
theorem snd_lis {m : Bool} {x : Str} {p : Pos} (hg : Gl X x) (hm : X.mg x = none) (hv : bootBuiltins x = some (.type "list")) (ha : PE X a (tE X.K ca W fa)) (hn : x ≠ "__name__") (hdb : (x == ("__debug__" : Str)) = false) (hst : ∀ x p, a ≠ .Starred x p) :
    PE X (.Call (.Name x p) [a] [] pos) (tE X.K ca W fun l h => (fa l h).bind fun x h1 => match rd h1 x with
      | some (.list ds) => mkL m ds h1
      | some (.tuple ds) => mkL m ds h1
      | _ => .bad) := by
  refine pe_imp (pe_callTy call_list_of hg hm hv (pa_cons ha pa_nil (one_star hst)) hn hdb (one_star hst) rfl) fun σ H Q ⟨r, l, h, rl, rh, g⟩ => ?_
  refine ⟨r, l, h, rl, rh, g.bind.imp fun x h1 r1 H1 e1 rh1 g1 v rv => ?_⟩
  split at g1
  · rename_i ds ex
    obtain ⟨q, ys, rfl, h4, h5⟩ := (vw_of rh1 rv ex).list
    exact ⟨q, ys, rfl, .inl h4, new_list rh1 h5 g1⟩
  · rename_i ds ex
    obtain ⟨q, ys, rfl, h4, h5⟩ := (vw_of rh1 rv ex).tuple
    exact ⟨q, ys, rfl, .inr h4.sq, new_list rh1 h5 g1⟩
  · exact False.elim g1
/-! ### isinstance -/
def Cl.name : Cl → String
  | .int => "int"
  | .bool => "bool"
  | .str => "str"
  | .tuple => "tuple"
  | .list => "list"
  | .dict => "dict"
/-- the kinds of data, as numbers -/
def kindP : PD → _root_.Fin 7
  | .none => 0
  | .bool _ => 1
  | .int _ => 2
  | .str _ => 3
  | .list _ => 4
  | .tuple _ => 5
  | .dict _ => 6
def kindName (k : _root_.Fin 7) : String := match k with
  | 0 => "NoneType"
  | 1 => "bool"
  | 2 => "int"
  | 3 => "str"
  | 4 => "list"
  | 5 => "tuple"
  | 6 => "dict"
def isiK (k : _root_.Fin 7) (c : Cl) : Bool := match c with
  | .int => k == 1 || k == 2
  | .bool => k == 1
  | .str => k == 3
  | .tuple => k == 5
  | .list => k == 4
  | .dict => k == 6
def tyName (d : PD) : String := kindName (kindP d)
theorem kit_k (c : Cl) : ∀ k : _root_.Fin 7, kitB (kindName k) c.name = some (isiK k c) := by
  cases c <;> exact (by decide +kernel)
theorem kit_cl (d : PD) (c : Cl) : kitB (tyName d) c.name = some (isiP d c) := by
  have e : isiP d c = isiK (kindP d) c := by cases d <;> cases c <;> rfl
  rw [e]
  exact kit_k c (kindP d)
theorem ty_of {K : Frg} {r : Rho} {H : Hp} {v : V} {d : PD} (q : Vw K r H v d) : TyX K H v (.type (tyName d)) := by
  cases d with
  | none => cases q.non; exact .base .non
  | bool i => cases q.bool; exact .base (.bl _)
  | int i => cases q.int; exact .base (.int _)
  | str i => cases q.str; exact .base (.str _)
  | list ds =>
    obtain ⟨a, ys, rfl, h1, _⟩ := q.list
    rcases h1 with (h1 | ⟨o, h1⟩) | ⟨o, its, n, h1, h2, _⟩
    · exact .base (.lst h1)
    · exact .base (.frz h1)
    · exact .kList h1 h2
  | tuple ds =>
    obtain ⟨a, ys, rfl, h1, _⟩ := q.tuple
    rcases h1 with ⟨h1 | ⟨o, h1⟩, _⟩ | ⟨o, its, n, h1, h2, _⟩
    · exact .base (.tup h1)
    · exact .fTuple h1
    · exact .kTuple h1 h2
  | dict ds =>
    obtain ⟨a, ys, rfl, h1, _⟩ := q.dict
    rcases h1 with h1 | ⟨o, h1⟩
    · exact .base (.dK h1)
    · exact .fDict h1
theorem snd_isi {cl : Cl} {x y : Str} {p p2 : Pos} (hg : Gl X x) (hm : X.mg x = none) (hv : bootBuiltins x = some (.builtin "isinstance")) (hg2 : Gl X y) (hm2 : X.mg y = none) (hv2 : bootBuiltins y = some (.type cl.name)) (ha : PE X a (tE X.K ca W fa))
    (hn : x ≠ "__name__") (hdb : (x == ("__debug__" : Str)) = false) (hn2 : y ≠ "__name__") (hdb2 : (y == ("__debug__" : Str)) = false) (hst : ∀ x p, a ≠ .Starred x p) :
    PE X (.Call (.Name x p) [a, .Name y p2] [] pos) (tE X.K ca W fun l h => (fa l h).bind fun x h1 => match rd h1 x with
      | some p => .ok (.dat (.bool (isiP p cl))) h1
      | none => .bad) := by
  have hc : PE X (.Name y p2) (tC (.ty cl.name)) := pe_bltn (v := .ty cl.name) hg2 hm2 hv2 rfl hn2 hdb2
  refine pe_imp (pe_callB call_isi hg hm hv (pa_cons ha (pa_cons hc pa_nil rfl) (one_star hst)) hn hdb (one_star hst) rfl) fun σ H Q ⟨r, l, h, rl, rh, g⟩ => ?_
  refine ⟨r, l, h, rl, rh, g.bind.imp fun x h1 r1 H1 e1 rh1 g1 v rv => ?_⟩
  split at g1
  · rename_i d ex
    exact ⟨v, .ty cl.name, .type (tyName d), .type cl.name, isiP d cl, rfl, .ty _, ty_of (vw_of rh1 rv ex), kit_ty (kit_cl d cl), g1.ok rh1 _ (RP.bl _)⟩
  · exact False.elim g1
end
end Mi

/-! Mi: methods, and/or, targets, what is walked. -/
namespace Mi
open PySem PySem.Spec PyProof.Rows L2

/-! ### methods of lists -/
section
variable {X : Cx} {ca : Str → Option Addr} {W : WX} {o e : Expr} {es : List Expr} {fo : Loc → Hd → Res D} {fs : Loc → Hd → Res (List D)} {apos cpos : Pos}
def Mt.name : Mt → Str
  | .append => "append"
  | .extend => "extend"
  | .pop => "pop"
  | .popAt => "pop"
  | .clear => "clear"
/-- the rule of a method, by what the data's world says -/
def rMth (k : Mt) (K : Frg) (ca : Str → Option Addr) (W : WX) (σ : L2.St) : V → List V → Hp → VK → Prop := fun v vs H Q => ∃ r h x ds, RV K r H v x ∧ RVs K r H vs ds ∧ RH K r H h ∧ Go K ca W r H σ (mthRun k x ds h) (kQ K Q)
theorem lst_of {K : Frg} {r : Rho} {H : Hp} {h : Hd} {v : V} {x : D} (rh : RH K r H h) (rv : RV K r H v x) (hl : isLst h x = true) : ∃ n a xs ys, x = .ref n ∧ v = .ref a ∧ r.at_[n]? = some a ∧ h[n]? = some (.lst xs) ∧ H a = some (.lst ys) ∧ RPs K r H ys xs := by
  cases x with
  | ref n =>
    obtain ⟨a, h1, rfl⟩ := rv
    unfold isLst at hl
    dsimp only at hl
    split at hl
    · rename_i xs hx
      obtain ⟨ys, h2, h3⟩ := rh.ob n _ a hx h1
      exact ⟨n, a, xs, ys, rfl, rfl, h1, hx, h2, h3⟩
    · cases hl
  | _ => cases hl
theorem mth_lst {K : Frg} {r : Rho} {H : Hp} {σ : L2.St} {k : Mt} {x : D} {ds : List D} {h : Hd} {Q : D → Hd → Rho → Hp → Prop} (g : Go K ca W r H σ (mthRun k x ds h) Q) : isLst h x = true := by
  unfold mthRun at g
  split at g
  · rename_i n
    split at g
    · rename_i xs hx
      unfold isLst
      dsimp only
      rw [hx]
    · exact False.elim g
  · exact False.elim g
theorem mth_set {K : Frg} {r : Rho} {H : Hp} {σ : L2.St} {h : Hd} {n : Nat} {a : Addr} {zs : List PD} {ws : List V} {d : PD} {Q : VK} {v : V} (rh : RH K r H h) (h1 : r.at_[n]? = some a) (rp : RPs K r H ws zs)
    (g : Go K ca W r H σ (.ok (.dat d) (h.set n (.lst zs))) (kQ K Q)) (rv : RP K r H v d) : Q v (upd H a (.lst ws)) := by
  have hm : a ∈ r.at_ := List.mem_of_getElem? h1
  have e : Ext r H r (upd H a (.lst ws)) := .mut hm (rh.nohid hm)
  exact g r _ e (rh.set h1 ⟨ws, upd_same, rp.ext e⟩) v (RP.ext rv e)
theorem mth_get {K : Frg} {r : Rho} {H : Hp} {σ : L2.St} {k : Mt} {x : D} {ds : List D} {h : Hd} {v : V} {Q : D → Hd → Rho → Hp → Prop} (rh : RH K r H h) (rv : RV K r H v x) (g : Go K ca W r H σ (mthRun k x ds h) Q) :
    ∃ n a xs ys d zs, x = .ref n ∧ v = .ref a ∧ r.at_[n]? = some a ∧ H a = some (.lst ys) ∧ RPs K r H ys xs ∧ lstRun xs h k ds = some (d, zs) ∧ Go K ca W r H σ (.ok (.dat d) (h.set n (.lst zs))) Q := by
  obtain ⟨n, a, xs, ys, rfl, rfl, h3, h4, h5, h6⟩ := lst_of rh rv (mth_lst g)
  unfold mthRun at g
  dsimp only at g
  rw [h4] at g
  dsimp only at g
  split at g
  · rename_i d zs he
    exact ⟨n, a, xs, ys, d, zs, rfl, rfl, h3, h5, h6, he, g⟩
  · exact False.elim g
theorem rAppend_of {σ : L2.St} {v : V} {vs : List V} {H : Hp} {Q : VK} {K : Frg} (q : rMth .append K ca W σ v vs H Q) : rAppend v vs H Q := by
  obtain ⟨r, h, x, ds, rv, rvs, rh, g⟩ := q
  obtain ⟨n, a, xs, ys, d, zs, rfl, rfl, h3, h5, h6, he, g⟩ := mth_get rh rv g
  unfold lstRun at he
  split at he <;> (try (cases he; done)) <;> (try (rename_i hk; cases hk; done))
  rename_i d'
  cases rvs with
  | cons ra rn =>
    cases rn
    split at he
    · rename_i hz
      cases he
      exact ⟨a, ys, _, rfl, rfl, h5, by rw [h6.length]; exact hz, mth_set rh h3 (h6.append (.cons ra .nil)) g .non⟩
    · cases he
theorem rExtend_of {σ : L2.St} {v : V} {vs : List V} {H : Hp} {Q : VK} {K : Frg} (q : rMth .extend K ca W σ v vs H Q) : rExtend v vs H Q ∨ rExtendT K v vs H Q := by
  obtain ⟨r, h, x, ds, rv, rvs, rh, g⟩ := q
  obtain ⟨n, a, xs, ys, d, zs, rfl, rfl, h3, h5, h6, he, g⟩ := mth_get rh rv g
  unfold lstRun at he
  split at he <;> (try (cases he; done)) <;> (try (rename_i hk; cases hk; done))
  rename_i d'
  cases rvs with
  | cons ra rn =>
    cases rn
    split at he
    · rename_i ws hw
      split at he
      · rename_i hz
        cases he
        obtain ⟨b, us, rfl, h7, h8⟩ := (vx_of rh ra hw).list
        exact .inl ⟨a, b, ys, us, rfl, rfl, h5, h7, by rw [h6.length, h8.length]; exact hz, mth_set rh h3 (h6.append h8) g .non⟩
      · cases he
    · rename_i ws hw
      split at he
      · rename_i hz
        cases he
        obtain ⟨b, us, rfl, h7, h8⟩ := (vx_of rh ra hw).tuple
        exact .inr ⟨a, b, ys, us, rfl, rfl, h5, h7.sq, by rw [h6.length, h8.length]; exact hz, mth_set rh h3 (h6.append h8) g .non⟩
      · cases he
    · cases he
theorem mt_extendB : MtM X "list.extend" (fun v vs H Q => rExtend v vs H Q ∨ rExtendT X.K v vs H Q) := by
  intro pins s σ H x vs v us Q I rx rv h
  rcases h with h | h
  · exact mt_extend pins s σ H x vs v us Q I rx rv h
  · exact mt_extendT pins s σ H x vs v us Q I rx rv h
theorem RPs.dropLast {K : Frg} {r : Rho} {H : Hp} {ds : List PD} {vs : List V} (h : RPs K r H vs ds) : RPs K r H vs.dropLast ds.dropLast := by
  rw [List.dropLast_eq_take, List.dropLast_eq_take, h.length]
  exact h.take _
theorem rPop_of {σ : L2.St} {v : V} {vs : List V} {H : Hp} {Q : VK} {K : Frg} (q : rMth .pop K ca W σ v vs H Q) : rPop v vs H Q := by
  obtain ⟨r, h, x, ds, rv, rvs, rh, g⟩ := q
  obtain ⟨n, a, xs, ys, d, zs, rfl, rfl, h3, h5, h6, he, g⟩ := mth_get rh rv g
  unfold lstRun at he
  split at he <;> (try (cases he; done)) <;> (try (rename_i hk; cases hk; done))
  cases rvs
  split at he
  · rename_i d' hd
    cases he
    obtain ⟨y, hy, ry⟩ := h6.get hd
    exact ⟨a, ys, y, rfl, rfl, h5, by rw [h6.length]; exact hy, mth_set rh h3 h6.dropLast g ry⟩
  · cases he
theorem rPopAt_of {σ : L2.St} {v : V} {vs : List V} {H : Hp} {Q : VK} {K : Frg} (q : rMth .popAt K ca W σ v vs H Q) : rPopAt v vs H Q := by
  obtain ⟨r, h, x, ds, rv, rvs, rh, g⟩ := q
  obtain ⟨n, a, xs, ys, d, zs, rfl, rfl, h3, h5, h6, he, g⟩ := mth_get rh rv g
  unfold lstRun at he
  split at he <;> (try (cases he; done)) <;> (try (rename_i hk; cases hk; done))
  rename_i i hh
  cases rvs with
  | cons ra rn =>
    cases rn
    have ra' : RP K r H _ (.int i) := ra
    cases ra'
    split at he
    · rename_i hz
      cases hd : xs[i.toNat]? with
      | none => rw [hd] at he; cases he
      | some d' =>
        rw [hd] at he
        cases he
        obtain ⟨y, hy, ry⟩ := h6.get hd
        refine ⟨a, ys, i, i.toNat, y, rfl, rfl, h5, by omega, hz.2.2, ?_, hy, mth_set rh h3 (h6.eraseIdx _) g ry⟩
        exact seqIndex_of hz.1 (by rw [h6.length]; exact hz.2.1)
    · cases he
theorem rClear_of {σ : L2.St} {v : V} {vs : List V} {H : Hp} {Q : VK} {K : Frg} (q : rMth .clear K ca W σ v vs H Q) : rClear v vs H Q := by
  obtain ⟨r, h, x, ds, rv, rvs, rh, g⟩ := q
  obtain ⟨n, a, xs, ys, d, zs, rfl, rfl, h3, h5, h6, he, g⟩ := mth_get rh rv g
  unfold lstRun at he
  split at he <;> (try (cases he; done)) <;> (try (rename_i hk; cases hk; done))
  cases rvs
  cases he
  exact ⟨a, ys, rfl, rfl, h5, mth_set rh h3 .nil g .non⟩
/-- o.m(e, ..) -/
theorem snd_mth {k : Mt} {name : Str} {id : String} {rr : V → List V → Hp → VK → Prop} (slot : Slot "list" name id) (hty : typeOf (.builtin id) = pure (.type "method_descriptor")) (hmr : MtR X id rr) (hr : ∀ σ v vs H Q, rMth k X.K ca W σ v vs H Q → rr v vs H Q)
    (ho : PE X o (tE X.K ca W fo)) (ha : PA X (e :: es) (tA X.K ca W fs)) (hbase : attributeBase o name X.env (eval o X.env) = eval o X.env) (hline : (apos.endLine == cpos.line) = true) (hst : ∀ y ∈ e :: es, ∀ x p, y ≠ .Starred x p) (hlen : (e :: es).length < 30) :
    PE X (.Call (.Attribute o name apos) (e :: es) [] cpos) (tE X.K ca W fun l h => (fo l h).bind fun x h1 => if isLst h1 x then (fs l h1).bind fun ds h2 => mthRun k x ds h2 else .bad) := by
  have hfew : ((backTo cpos (starEach (e :: es) X.env)).all (fun x => !x.1) && (backToKw cpos (keywordEach [] X.env)).all (fun x => x.1.isSome)
      && decide ((e :: es).length + ([] : List Keyword).length + (if ([] : List Keyword).isEmpty then 0 else 1) < 30)) = true := by
    rw [all_star hst, decide_eq_true (by simpa using hlen)]
    rfl
  refine pe_imp (pe_bm PySem.F.plainAttrs_list slot hty hmr ho ha hbase hfew hline (one_star (hst e List.mem_cons_self)) (any_star fun y hy => hst y (List.mem_cons_of_mem _ hy))) fun σ H Q ⟨r, l, h, rl, rh, g⟩ => ?_
  refine ⟨r, l, h, rl, rh, g.bind.imp fun x h1 r1 H1 e1 rh1 g1 v rv => ?_⟩
  split at g1
  · rename_i hi
    obtain ⟨n, a, xs, ys, rfl, rfl, h3, h4, h5, h6⟩ := lst_of rh1 rv hi
    refine ⟨.inl ⟨rfl, ys, .inl (.inl h5)⟩, r1, l, h1, rl.ext e1, rh1, g1.bind.imp fun ds h2 r2 H2 e2 rh2 g2 vs rvs => ?_⟩
    exact hr σ _ _ _ _ ⟨r2, h2, .ref n, ds, rv.ext e2, rvs, rh2, g2⟩
  · exact False.elim g1
theorem snd_mth0 {k : Mt} {name : Str} {id : String} {rr : V → List V → Hp → VK → Prop} (slot : Slot "list" name id) (hty : typeOf (.builtin id) = pure (.type "method_descriptor")) (hmr : MtR X id rr) (hr : ∀ σ v vs H Q, rMth k X.K ca W σ v vs H Q → rr v vs H Q)
    (ho : PE X o (tE X.K ca W fo)) (hbase : attributeBase o name X.env (eval o X.env) = eval o X.env) (hline : (apos.endLine == cpos.line) = true) :
    PE X (.Call (.Attribute o name apos) [] [] cpos) (tE X.K ca W fun l h => (fo l h).bind fun x h1 => if isLst h1 x then (Res.ok [] h1).bind fun ds h2 => mthRun k x ds h2 else .bad) := by
  refine pe_imp (pe_bm0 PySem.F.plainAttrs_list slot hty hmr ho hbase hline) fun σ H Q ⟨r, l, h, rl, rh, g⟩ => ?_
  refine ⟨r, l, h, rl, rh, g.bind.imp fun x h1 r1 H1 e1 rh1 g1 v rv => ?_⟩
  split at g1
  · rename_i hi
    obtain ⟨n, a, xs, ys, rfl, rfl, h3, h4, h5, h6⟩ := lst_of rh1 rv hi
    exact ⟨.inl ⟨rfl, ys, .inl (.inl h5)⟩, hr σ _ _ _ _ ⟨r1, h1, .ref n, [], rv, .nil, rh1, g1⟩⟩
  · exact False.elim g1
end
end Mi

/-! Mi: and/or, targets, what is walked, comprehensions. -/
namespace Mi
open PySem PySem.Spec PyProof.Rows L2

section
variable {X : Cx} {ca : Str → Option Addr} {W : WX} {a b c : Expr} {rest : List Expr} {fa fb fc : Loc → Hd → Res D} {pos : Pos}
theorem snd_andV (ha : PE X a (tE X.K ca W fa)) (hb : PE X (.BoolOp .And (b :: rest) pos) (tE X.K ca W fb)) :
    PE X (.BoolOp .And (a :: b :: rest) pos) (tE X.K ca W fun l h => (fa l h).bind fun x h1 => (truD h1 x).bind fun b h2 => if b = true then fb l h2 else .ok x h2) := by
  refine pe_imp (pe_andT ha hb) fun σ H Q ⟨r, l, h, rl, rh, g⟩ => ?_
  refine ⟨r, l, h, rl, rh, g.bind.imp fun x h1 r1 H1 e1 rh1 g1 v rv => ?_⟩
  obtain ⟨k, h2, _, g2⟩ := tru_of rh1 rv g1.bind
  refine ⟨k, h2, ?_⟩
  cases k with
  | true => exact iteT (B := Q v H1) ⟨r1, l, h1, rl.ext e1, rh1, g2⟩
  | false => exact iteF (A := tE X.K ca W fb σ H1 Q) (Go.ok (a := x) g2 rh1 v rv)
theorem snd_orV (ha : PE X a (tE X.K ca W fa)) (hb : PE X (.BoolOp .Or (b :: rest) pos) (tE X.K ca W fb)) :
    PE X (.BoolOp .Or (a :: b :: rest) pos) (tE X.K ca W fun l h => (fa l h).bind fun x h1 => (truD h1 x).bind fun b h2 => if b = false then fb l h2 else .ok x h2) := by
  refine pe_imp (pe_orT ha hb) fun σ H Q ⟨r, l, h, rl, rh, g⟩ => ?_
  refine ⟨r, l, h, rl, rh, g.bind.imp fun x h1 r1 H1 e1 rh1 g1 v rv => ?_⟩
  obtain ⟨k, h2, _, g2⟩ := tru_of rh1 rv g1.bind
  refine ⟨k, h2, ?_⟩
  cases k with
  | true => exact iteT (B := tE X.K ca W fb σ H1 Q) (Go.ok (a := x) g2 rh1 v rv)
  | false => exact iteF (A := Q v H1) ⟨r1, l, h1, rl.ext e1, rh1, g2⟩
theorem pw_imp {e : Expr} {t t' : TT} (h : PW X e t) (i : ∀ σ H Q, t' σ H Q → t σ H Q) : PW X e t' := ⟨fun wh pins s σ H Q I w => h.run wh pins s σ H Q I (i σ H Q w)⟩
theorem snd_andT {ft fu : Loc → Hd → Res Bool} (ha : PT X a (tT X.K ca W ft)) (hb : PW X (.BoolOp .And (b :: rest) pos) (tT X.K ca W fu)) :
    PW X (.BoolOp .And (a :: b :: rest) pos) (tT X.K ca W fun l h => (ft l h).bind fun k h1 => if k = true then fu l h1 else .ok false h1) := by
  refine pw_imp (pw_and ha hb) fun σ H Q ⟨r, l, h, rl, rh, g⟩ => ?_
  refine ⟨r, l, h, rl, rh, g.bind.imp fun k h1 r1 H1 e1 rh1 g1 => ?_⟩
  cases k with
  | true => exact iteT (B := Q false H1) ⟨r1, l, h1, rl.ext e1, rh1, g1⟩
  | false => exact iteF (A := tT X.K ca W fu σ H1 Q) (Go.ok (a := false) g1 rh1)
theorem snd_orT {ft fu : Loc → Hd → Res Bool} (ha : PT X a (tT X.K ca W ft)) (hb : PW X (.BoolOp .Or (b :: rest) pos) (tT X.K ca W fu)) :
    PW X (.BoolOp .Or (a :: b :: rest) pos) (tT X.K ca W fun l h => (ft l h).bind fun k h1 => if k = false then fu l h1 else .ok true h1) := by
  refine pw_imp (pw_or ha hb) fun σ H Q ⟨r, l, h, rl, rh, g⟩ => ?_
  refine ⟨r, l, h, rl, rh, g.bind.imp fun k h1 r1 H1 e1 rh1 g1 => ?_⟩
  cases k with
  | true => exact iteT (B := tT X.K ca W fu σ H1 Q) (Go.ok (a := true) g1 rh1)
  | false => exact iteF (A := Q true H1) ⟨r1, l, h1, rl.ext e1, rh1, g1⟩
end

/-! ### targets -/
/-- the slots behind a target: those of the pattern may differ -/
def Agree (vs : List Nat) (σ σ' : L2.St) : Prop := σ'.length = σ.length ∧ ∀ i, i ∉ vs → σ'[i]? = σ[i]?
def gP (K : Frg) (p : Pt) : TG := fun v σ H Q => ∃ r l d l', RL K r H l σ ∧ RP K r H v d ∧ bindP p d l = some l' ∧ ∀ σ', RL K r H l' σ' → Agree p.slots σ σ' → Q σ' H
def gPs (K : Frg) (p : Pts) : TGs := fun vs σ H Q => ∃ r l ds l', RL K r H l σ ∧ RPs K r H vs ds ∧ bindPs p ds l = some l' ∧ ∀ σ', RL K r H l' σ' → Agree p.slots σ σ' → Q σ' H
theorem Agree.trans {vs us : List Nat} {a b c : L2.St} (h : Agree vs a b) (h' : Agree us b c) : Agree (vs ++ us) a c :=
  ⟨h'.1.trans h.1, fun i hi => by
    rw [List.mem_append, not_or] at hi
    exact (h'.2 i hi.2).trans (h.2 i hi.1)⟩
theorem Agree.refl (vs : List Nat) (a : L2.St) : Agree vs a a := ⟨rfl, fun _ _ => rfl⟩
section
variable {X : Cx} {pos : Pos}
theorem pg_imp {e : Expr} {t t' : TG} (h : PG X e t) (i : ∀ v σ H Q, t' v σ H Q → t v σ H Q) : PG X e t' := ⟨fun pins s σ H v u Q I rv w => h.run pins s σ H v u Q I rv (i v σ H Q w)⟩
theorem pgs_imp {e : List Expr} {t t' : TGs} (h : PGs X e t) (i : ∀ v σ H Q, t' v σ H Q → t v σ H Q) : PGs X e t' := ⟨fun pins s σ H v u Q I rv w => h.run pins s σ H v u Q I rv (i v σ H Q w)⟩
theorem snd_nm {i : Nat} {x : Str} (hN : X.N.Nodup) (hi : X.N[i]? = some x) (hx : L2.Loc X.env.scope x) (hf : X.fn x = true ∨ X.env.scope.names.lookup x = some .local) : PG X (.Name x pos) (gP X.K (.nm i)) := by
  refine pg_imp (pg_name hN hi hx hf) fun v σ H Q ⟨r, l, d, l', rl, rp, hb, k⟩ => ?_
  simp only [bindP] at hb
  cases hb
  refine k _ (rl.set (d := .dat d) rp i) ⟨by simp, fun j hj => ?_⟩
  have hne : i ≠ j := fun z => hj (by simp [Pt.slots, z])
  exact List.getElem?_set_ne hne
theorem snd_ps0 : PGs X [] (gPs X.K .nil) := by
  refine pgs_imp pgs_nil fun vs σ H Q ⟨r, l, ds, l', rl, rp, hb, k⟩ => ?_
  cases rp with
  | nil =>
    simp only [bindPs] at hb
    cases hb
    exact ⟨rfl, k σ rl (.refl _ _)⟩
  | cons _ _ => cases hb
theorem snd_ps {p : Pt} {q : Pts} {e : Expr} {es : List Expr} (h1 : PG X e (gP X.K p)) (h2 : PGs X es (gPs X.K q)) (hs : (assignEach (e :: es) X.env).map (·.2) = assign e X.env :: (assignEach es X.env).map (·.2)) : PGs X (e :: es) (gPs X.K (.cons p q)) := by
  refine pgs_imp (pgs_cons h1 h2 hs) fun vs σ H Q ⟨r, l, ds, l', rl, rp, hb, k⟩ => ?_
  cases rp with
  | nil => cases hb
  | @cons v vr d dr r1 rr =>
    have hb : (bindP p d l).bind (fun l1 => bindPs q dr l1) = some l' := hb
    cases hl : bindP p d l with
    | none => rw [hl] at hb; cases hb
    | some l1 =>
      rw [hl] at hb
      refine ⟨v, vr, rfl, r, l, d, l1, rl, r1, hl, fun σ1 rl1 ag1 => ⟨r, l1, dr, l', rl1, rr, hb, fun σ2 rl2 ag2 => k σ2 rl2 (ag1.trans ag2)⟩⟩
theorem snd_tp {ps : Pts} {es : List Expr} {k : Nat} {n : Nat} (hc : X.calm = true) (h : PGs X es (gPs X.K ps)) (hn : (assignEach es X.env).length = n) (hst : (assignEach es X.env).findIdx? (·.1) = none) (hz : ∀ ds l l', bindPs ps ds l = some l' → ds.length = n) : PG X (.Tuple es k pos) (gP X.K (.tp ps)) := by
  refine pg_imp (pg_tup hc h hn hst) fun v σ H Q ⟨r, l, d, l', rl, rp, hb, k⟩ => ?_
  cases d with
  | tuple ds =>
    simp only [bindP] at hb
    cases rp with
    | tup h1 h2 =>
      refine ⟨_, _, rfl, h1.sq, by rw [h2.length]; exact hz ds l l' hb, r, l, ds, l', rl, h2, hb, k⟩
  | _ => cases hb
end
/-- a target as a chain of instructions -/
def Pts.len : Pts → Nat
  | .nil => 0
  | .cons _ r => r.len + 1
theorem bindPs_len : ∀ (ps : Pts) (ds : List PD) (l l' : Loc), bindPs ps ds l = some l' → ds.length = ps.len
  | .nil, [], _, _, _ => rfl
  | .nil, _ :: _, _, _, h => by cases h
  | .cons p r, [], _, _, h => by cases h
  | .cons p r, d :: ds, l, l', h => by
    simp only [bindPs] at h
    cases hl : bindP p d l with
    | none => rw [hl] at h; cases h
    | some l1 =>
      rw [hl] at h
      have := bindPs_len r ds l1 l' h
      simp [Pts.len, this]
/-! ### wiping -/
theorem wipe_len (σ : L2.St) (vs : List Nat) : (wipe σ vs).length = σ.length := wipe_length σ vs
theorem wipeL_len (l : Loc) : ∀ vs : List Nat, (wipeL l vs).length = l.length
  | [] => rfl
  | v :: vs => by simp [wipeL, wipeL_len l vs]
theorem wipeL_some {l : Loc} {i : Nat} {d : D} : ∀ {vs : List Nat}, (wipeL l vs)[i]? = some (some d) → l[i]? = some (some d) ∧ i ∉ vs
  | [], h => ⟨h, by simp⟩
  | v :: vs, h => by
    simp only [wipeL] at h
    by_cases e : v = i
    · subst e
      by_cases hv : v < (wipeL l vs).length
      · rw [List.getElem?_set_self hv] at h; cases h
      · rw [List.getElem?_eq_none (by simpa using hv)] at h; cases h
    · rw [List.getElem?_set_ne e] at h
      obtain ⟨h1, h2⟩ := wipeL_some h
      exact ⟨h1, by simp only [List.mem_cons, not_or]; exact ⟨fun z => e z.symm, h2⟩⟩
theorem wipe_get {σ : L2.St} {i : Nat} : ∀ {vs : List Nat}, i ∉ vs → (wipe σ vs)[i]? = σ[i]?
  | [], _ => rfl
  | v :: vs, h => by
    rw [List.mem_cons, not_or] at h
    unfold wipe
    rw [List.getElem?_set_ne (fun z => h.1 z.symm), wipe_get h.2]
theorem wipe_none {σ : L2.St} {i : Nat} : ∀ {vs : List Nat}, i ∈ vs → i < σ.length → (wipe σ vs)[i]? = some none
  | [], h, _ => by cases h
  | v :: vs, h, hl => by
    unfold wipe
    by_cases e : v = i
    · subst e
      rw [List.getElem?_set_self (by rw [wipe_length]; exact hl)]
    · rw [List.getElem?_set_ne e]
      exact wipe_none ((List.mem_cons.mp h).resolve_left fun z => e z.symm) hl
theorem wipe_eq {σ σ' : L2.St} {vs : List Nat} (h : Agree vs σ σ') : wipe σ' vs = wipe σ vs := by
  apply List.ext_getElem?
  intro i
  by_cases hi : i ∈ vs
  · by_cases hl : i < σ.length
    · rw [wipe_none hi hl, wipe_none hi (by rw [h.1]; exact hl)]
    · rw [List.getElem?_eq_none (by rw [wipe_length, h.1]; omega), List.getElem?_eq_none (by rw [wipe_length]; omega)]
  · rw [wipe_get hi, wipe_get hi, h.2 i hi]
theorem wipe_wipe {σ : L2.St} {vs : List Nat} : wipe (wipe σ vs) vs = wipe σ vs := wipe_eq ⟨wipe_length σ vs, fun i hi => wipe_get hi⟩
theorem RL.wipe {K : Frg} {r : Rho} {H : Hp} {l : Loc} {σ : L2.St} (q : RL K r H l σ) (vs : List Nat) : RL K r H (wipeL l vs) (L2.wipe σ vs) := by
  refine ⟨by rw [wipeL_len, wipe_length]; exact q.1, fun i d h => ?_⟩
  obtain ⟨h1, h2⟩ := wipeL_some h
  obtain ⟨v, h3, h4⟩ := q.2 i d h1
  exact ⟨v, by rw [wipe_get h2]; exact h3, h4⟩

/-! ### what is walked -/
/-- a weaker way on: what is data stays, the heap grows at its end -/
structure Ex0 (r : Rho) (H : Hp) (r' : Rho) (H' : Hp) : Prop where
  stb : Stb r H r' H'
  pre : ∃ t, r'.at_ = r.at_ ++ t
theorem Ext.e0 {r r' : Rho} {H H' : Hp} (e : Ext r H r' H') : Ex0 r H r' H' := ⟨e.stb, e.pre⟩
theorem Ex0.trans {r r1 r2 : Rho} {H H1 H2 : Hp} (a : Ex0 r H r1 H1) (b : Ex0 r1 H1 r2 H2) : Ex0 r H r2 H2 := by
  refine ⟨a.stb.trans b.stb, ?_⟩
  obtain ⟨t, e1⟩ := a.pre
  obtain ⟨t', e2⟩ := b.pre
  exact ⟨t ++ t', by rw [e2, e1]; simp⟩
theorem RV.ext0 {K : Frg} {r r' : Rho} {H H' : Hp} {v : V} {d : D} (q : RV K r H v d) (e : Ex0 r H r' H') : RV K r' H' v d := by
  cases d with
  | dat d => exact RP.mono e.stb d v q
  | ref n =>
    obtain ⟨a, h1, h2⟩ := q
    obtain ⟨t, et⟩ := e.pre
    exact ⟨a, by rw [et, List.getElem?_append_left (List.getElem?_eq_some_iff.mp h1).1]; exact h1, h2⟩
  | scr ns =>
    obtain ⟨a, h1, h2⟩ := q
    exact ⟨a, h1, h2.mono e.stb⟩
theorem RL.ext0 {K : Frg} {r r' : Rho} {H H' : Hp} {l : Loc} {s : L2.St} (q : RL K r H l s) (e : Ex0 r H r' H') : RL K r' H' l s :=
  ⟨q.1, fun i d h => let ⟨v, h1, h2⟩ := q.2 i d h; ⟨v, h1, h2.ext0 e⟩⟩
structure ItOk (K : Frg) (J : It) (w : Walk) (S : Rho → Hp → Prop) : Prop where
  stab : ∀ r H r' H', S r H → Ex0 r H r' H' → S r' H'
  go : ∀ (i : Nat) d r H h, S r H → RH K r H h → w.stays h → w.items[i]? = some d → J.go i H ∧ ∀ x H', J.yld i H x H' → Same H H' ∧ RP K r H' x d
  stop : ∀ (i : Nat) r H h, S r H → RH K r H h → w.stays h → w.items.length ≤ i → J.stop i H
def tI (K : Frg) (ca : Str → Option Addr) (W : WX) (f : Loc → Hd → Res Walk) : TI := fun σ H R => ∃ r l h, RL K r H l σ ∧ RH K r H h ∧ Go K ca W r H σ (f l h) fun w _ r' H' => ∀ J S, ItOk K J w S → S r' H' → R J H'
section
variable {K : Frg} {a : Addr} {ds : List PD}
theorem it_list (src : Option (Nat × List PD)) (S : Rho → Hp → Prop) (st : ∀ r H r' H', S r H → Ex0 r H r' H' → S r' H') (hq : ∀ r H h, S r H → RH K r H h → Walk.stays ⟨ds, src⟩ h → ∃ ys, SqL K H a ys ∧ RPs K r H ys ds) : ItOk K (Itl K a) ⟨ds, src⟩ S := by
  refine ⟨st, fun i d r H h s rh w hd => ?_, fun i r H h s rh w hi => ?_⟩
  · obtain ⟨ys, h1, h2⟩ := hq r H h s rh w
    obtain ⟨v, h3, h4⟩ := h2.get hd
    refine ⟨⟨ys, v, h1, h3⟩, fun x H' hy => ?_⟩
    obtain ⟨rfl, hx⟩ := hy
    have e := hx ys h1
    rw [h3] at e
    cases e
    exact ⟨Same.refl _, h4⟩
  · obtain ⟨ys, h1, h2⟩ := hq r H h s rh w
    exact ⟨ys, h1, by rw [h2.length]; exact hi⟩
theorem it_tup : ItOk K (Itt K a) ⟨ds, none⟩ (fun r H => ∃ ys, StT K r H a ys ∧ RPs K r H ys ds) := by
  refine ⟨fun r H r' H' ⟨ys, h1, h2⟩ e => ⟨ys, h1.mono e.stb, RPs.mono e.stb _ _ h2⟩, fun i d r H h ⟨ys, h1, h2⟩ rh w hd => ?_, fun i r H h ⟨ys, h1, h2⟩ rh w hi => ?_⟩
  · obtain ⟨v, h3, h4⟩ := h2.get hd
    refine ⟨⟨ys, v, h1.sq, h3⟩, fun x H' hy => ?_⟩
    obtain ⟨rfl, hx⟩ := hy
    have e := hx ys h1.sq
    rw [h3] at e
    cases e
    exact ⟨Same.refl _, h4⟩
  · exact ⟨ys, h1.sq, by rw [h2.length]; exact hi⟩
theorem it_rng (lo : Int) (n : Nat) : ItOk K (L2.Itr lo n) ⟨(List.range n).map fun (k : Nat) => .int (lo + (k : Int)), none⟩ (fun _ _ => True) := by
  refine ⟨fun _ _ _ _ _ _ => trivial, fun i d r H h _ rh w hd => ?_, fun i r H h _ rh w hi => ?_⟩
  · dsimp only at hd
    rw [List.getElem?_map] at hd
    cases hr : (List.range n)[i]? with
    | none => rw [hr] at hd; cases hd
    | some k =>
      rw [hr] at hd
      cases hd
      obtain ⟨h1, h2⟩ := List.getElem?_eq_some_iff.mp hr
      rw [List.length_range] at h1
      rw [List.getElem_range] at h2
      subst h2
      refine ⟨h1, fun x H' hy => ?_⟩
      obtain ⟨rfl, rfl⟩ := hy
      exact ⟨Same.refl _, .int _⟩
  · dsimp only at hi
    rw [List.length_map, List.length_range] at hi
    exact hi
theorem it_str (z : Str) : ItOk K (Its z) ⟨z.cps.toList.map fun c => .str ⟨#[c]⟩, none⟩ (fun _ _ => True) := by
  refine ⟨fun _ _ _ _ _ _ => trivial, fun i d r H h _ rh w hd => ?_, fun i r H h _ rh w hi => ?_⟩
  · dsimp only at hd
    rw [List.getElem?_map] at hd
    cases hr : z.cps.toList[i]? with
    | none => rw [hr] at hd; cases hd
    | some c =>
      rw [hr] at hd
      cases hd
      have h1 : i < z.cps.size := by
        have := (List.getElem?_eq_some_iff.mp hr).1
        simpa using this
      refine ⟨h1, fun x H' hy => ?_⟩
      obtain ⟨rfl, c', hc, rfl⟩ := hy
      have e : z.cps[i]? = some c := by rw [← Array.getElem?_toList]; exact hr
      rw [hc] at e
      cases e
      exact ⟨Same.refl _, .str _⟩
  · dsimp only at hi
    rw [List.length_map] at hi
    show z.cps.size ≤ i
    simpa using hi
end
section
variable {X : Cx} {ca : Str → Option Addr} {W : WX} {a tg : Expr} {fa : Loc → Hd → Res D} {pos p : Pos}
theorem pi_imp {e : Expr} {t t' : TI} (h : PI X tg e t) (i : ∀ σ H R, t' σ H R → t σ H R) : PI X tg e t' := ⟨fun pins s σ H R I w => h.run pins s σ H R I (i σ H R w)⟩
theorem pi_or {e : Expr} {t t' : TI} (h : PI X tg e t) (h' : PI X tg e t') : PI X tg e (fun σ H R => t σ H R ∨ t' σ H R) := ⟨fun pins s σ H R I w => w.elim (fun z => h.run pins s σ H R I z) (fun z => h'.run pins s σ H R I z)⟩
theorem snd_seq (ha : PE X a (tE X.K ca W fa)) : PI X tg a (tI X.K ca W fun l h => (fa l h).bind fun x h1 => match seqOf h1 x with
    | some w => .ok w h1
    | none => .bad) := by
  refine pi_imp (pi_or (pi_list ha) (pi_or (pi_tup ha) (pi_str ha))) fun σ H R ⟨r, l, h, rl, rh, g⟩ => ?_
  have g := g.bind
  cases hf : fa l h with
  | bad => rw [hf] at g; exact False.elim g
  | exc z h1 => rw [hf] at g; exact .inl ⟨r, l, h, rl, rh, by rw [hf]; exact g⟩
  | ok x h1 =>
    rw [hf] at g
    have lst : (∀ r1 H1 v, Ext r H r1 H1 → RH X.K r1 H1 h1 → RV X.K r1 H1 v x → ∃ q, v = .ref q ∧ (∃ ys, SqL X.K H1 q ys) ∧ R (Itl X.K q) H1) → iList X.K (tE X.K ca W fa) σ H R := fun z => ⟨r, l, h, rl, rh, by
      rw [hf]
      exact fun r1 H1 e1 rh1 v rv => z r1 H1 v e1 rh1 rv⟩
    cases x with
    | dat d =>
      cases d with
      | list ds =>
        refine .inl (lst fun r1 H1 v e1 rh1 rv => ?_)
        have g1 := g r1 H1 e1 rh1
        cases rv with
        | lst h2 h3 h4 =>
          rename_i q ys
          exact ⟨q, rfl, ⟨ys, .inl (.inl h2)⟩, g1.ok rh1 _ _ (it_list none (fun r H => ∃ ys, H q = some (.lst ys) ∧ Off r q ∧ RPs X.K r H ys ds) (fun r H r' H' ⟨ys, z1, z2, z3⟩ e => ⟨ys, e.stb.ex _ _ z1 z2, (e.stb.rd _ _ (.inl z1) z2).2, RPs.mono e.stb _ _ z3⟩)
            (fun r H h ⟨ys, z1, z2, z3⟩ _ _ => ⟨ys, .inl (.inl z1), z3⟩)) ⟨ys, h2, h3, h4⟩⟩
      | tuple ds =>
        refine .inr (.inl ⟨r, l, h, rl, rh, ?_⟩)
        rw [hf]
        intro r1 H1 e1 rh1 v rv
        have g1 := g r1 H1 e1 rh1
        cases rv with
        | tup h2 h3 =>
          rename_i q ys
          exact ⟨q, rfl, ⟨ys, h2.sq⟩, g1.ok rh1 _ _ it_tup ⟨ys, h2, h3⟩⟩
      | str z =>
        refine .inr (.inr ⟨r, l, h, rl, rh, ?_⟩)
        rw [hf]
        intro r1 H1 e1 rh1 v rv
        have g1 := g r1 H1 e1 rh1
        cases rv
        exact ⟨z, rfl, g1.ok rh1 _ _ (it_str z) trivial⟩
      | _ => exact .inl (lst fun r1 H1 v e1 rh1 rv => False.elim (g r1 H1 e1 rh1))
    | scr ns =>
      refine .inl (lst fun r1 H1 v e1 rh1 rv => ?_)
      have g1 := g r1 H1 e1 rh1
      obtain ⟨q, rfl, h2⟩ := rv
      exact ⟨q, rfl, ⟨_, h2.sq⟩, g1.ok rh1 _ _ (it_list none (fun r H => ScL X.K r H q (ns.map V.int)) (fun r H r' H' z e => z.mono e.stb)
        (fun r H h z _ _ => ⟨_, z.sq, rps_ints ns⟩)) h2⟩
    | ref n =>
      refine .inl (lst fun r1 H1 v e1 rh1 rv => ?_)
      have g1 := g r1 H1 e1 rh1
      obtain ⟨q, h2, rfl⟩ := rv
      unfold seqOf at g1
      cases hn : h1[n]? with
      | none => simp only [hn] at g1; exact False.elim g1
      | some ob =>
        cases ob with
        | dct ds => simp only [hn] at g1; exact False.elim g1
        | lst ds =>
          simp only [hn] at g1
          obtain ⟨ys, h3, h4⟩ := rh1.ob n _ q hn h2
          exact ⟨q, rfl, ⟨ys, .inl (.inl h3)⟩, g1.ok rh1 _ _ (it_list (some (n, ds)) (fun r H => r.at_[n]? = some q) (fun r H r' H' z e => by
              obtain ⟨t, et⟩ := e.pre
              rw [et, List.getElem?_append_left (List.getElem?_eq_some_iff.mp z).1]
              exact z)
            (fun r H h z rh' w => by
              obtain ⟨ys, z1, z2⟩ := rh'.ob n _ q (w n ds rfl) z
              exact ⟨ys, .inl (.inl z1), z2⟩)) h2⟩
theorem snd_rng1 {e : Expr} {fs : Loc → Hd → Res (List D)} (hg : Gl X "range") (hm : X.mg "range" = none) (ha : PA X [e] (tA X.K ca W fs)) (hst : ∀ x p, e ≠ .Starred x p) (hone : ∀ l h ds h1, fs l h = .ok ds h1 → ds.length = 1) :
    PI X tg (.Call (.Name "range" p) [e] [] pos) (tI X.K ca W fun l h => (fs l h).bind fun ds h1 => match (datsOf ds).bind rngOf with
      | some ds => .ok ⟨ds, none⟩ h1
      | none => .bad) := by
  refine pi_imp (pi_range1 hg hm ha (one_star hst)) fun σ H R ⟨r, l, h, rl, rh, g⟩ => ?_
  have g := g.bind
  refine ⟨r, l, h, rl, rh, ?_⟩
  cases hf : fs l h with
  | bad => rw [hf] at g; exact g
  | exc z h1 => rw [hf] at g; exact g
  | ok ds h1 =>
    rw [hf] at g
    intro r1 H1 e1 rh1 vs rvs
    have g1 := g r1 H1 e1 rh1
    dsimp only at g1
    have hl := hone l h ds h1 hf
    cases hd : datsOf ds with
    | none => rw [hd] at g1; exact False.elim g1
    | some ps =>
      rw [hd] at g1
      have rp := dats_rps rvs hd
      have hlp : ps.length = 1 := by rw [← rp.length, rvs.length]; exact hl
      match ps, hlp, rp, g1 with
      | [d], _, rp, g1 =>
        cases rp with
        | cons r2 rn =>
          cases rn
          cases r2 with
          | int j =>
            simp only [Option.bind, rngOf] at g1
            split at g1
            · rename_i ds2 he
              split at he
              · rename_i hz
                cases he
                have it := it_rng (K := X.K) 0 j.toNat
                simp only [Int.zero_add] at it
                exact ⟨j, rfl, hz.1, hz.2, g1.ok rh1 _ _ it trivial⟩
              · cases he
            · exact False.elim g1
          | _ => exact False.elim g1
theorem snd_rng2 {e e2 : Expr} {fs : Loc → Hd → Res (List D)} (hg : Gl X "range") (hm : X.mg "range" = none) (ha : PA X [e, e2] (tA X.K ca W fs)) (hst : ∀ x p, e ≠ .Starred x p) (hst2 : ∀ x p, e2 ≠ .Starred x p) (hone : ∀ l h ds h1, fs l h = .ok ds h1 → ds.length = 2) :
    PI X tg (.Call (.Name "range" p) [e, e2] [] pos) (tI X.K ca W fun l h => (fs l h).bind fun ds h1 => match (datsOf ds).bind rngOf with
      | some ds => .ok ⟨ds, none⟩ h1
      | none => .bad) := by
  refine pi_imp (pi_range2 hg hm ha (by rw [one_star hst, one_star hst2]; rfl) (by rw [one_star hst2]; rfl)) fun σ H R ⟨r, l, h, rl, rh, g⟩ => ?_
  have g := g.bind
  refine ⟨r, l, h, rl, rh, ?_⟩
  cases hf : fs l h with
  | bad => rw [hf] at g; exact g
  | exc z h1 => rw [hf] at g; exact g
  | ok ds h1 =>
    rw [hf] at g
    intro r1 H1 e1 rh1 vs rvs
    have g1 := g r1 H1 e1 rh1
    dsimp only at g1
    have hl := hone l h ds h1 hf
    cases hd : datsOf ds with
    | none => rw [hd] at g1; exact False.elim g1
    | some ps =>
      rw [hd] at g1
      have rp := dats_rps rvs hd
      have hlp : ps.length = 2 := by rw [← rp.length, rvs.length]; exact hl
      match ps, hlp, rp, g1 with
      | [d, d2], _, rp, g1 =>
        cases rp with
        | cons r2 rn =>
          cases rn with
          | cons r3 rn =>
            cases rn
            cases r2 with
            | int i =>
              cases r3 with
              | int j =>
                simp only [Option.bind, rngOf] at g1
                split at g1
                · rename_i ds2 he
                  split at he
                  · rename_i hz
                    cases he
                    exact ⟨i, j, rfl, ⟨hz.1.1, hz.1.2, hz.2.1, hz.2.2⟩, g1.ok rh1 _ _ (it_rng i (j - i).toNat) trivial⟩
                  · cases he
                · exact False.elim g1
              | _ => exact False.elim g1
            | _ => exact False.elim g1
end
end Mi

/-! Mi: comprehensions. -/
namespace Mi
open PySem PySem.Spec PyProof.Rows L2

section
variable {p : Pt} {w : Walk} {tst : Loc → Hd → Res Bool} {elt : Loc → Hd → Res D} {l : Loc}
theorem lcRun_nil {acc ds : List PD} {h h2 : Hd} (e : lcRun p w tst elt l [] acc h = .ok ds h2) : w.stays h ∧ ds = acc ∧ h2 = h := by
  unfold lcRun at e
  split at e
  · rename_i hs
    cases e
    exact ⟨hs, rfl, rfl⟩
  · cases e
theorem lcRun_cons {d : PD} {rest acc ds : List PD} {h h2 : Hd} (e : lcRun p w tst elt l (d :: rest) acc h = .ok ds h2) :
    w.stays h ∧ ∃ l' b h1, bindP p d (wipeL l p.slots) = some l' ∧ tst l' h = .ok b h1 ∧
      ((b = false ∧ lcRun p w tst elt l rest acc h1 = .ok ds h2) ∨ (b = true ∧ ∃ y h3, elt l' h1 = .ok (.dat y) h3 ∧ acc.length < sizeLine ∧ lcRun p w tst elt l rest (acc ++ [y]) h3 = .ok ds h2)) := by
  rw [lcRun] at e
  split at e
  · rename_i hs
    refine ⟨hs, ?_⟩
    split at e
    · cases e
    · rename_i l' hb
      cases ht : tst l' h with
      | bad => rw [ht] at e; cases e
      | exc z h1 => rw [ht] at e; cases e
      | ok b h1 =>
        rw [ht] at e
        refine ⟨l', b, h1, hb, ht, ?_⟩
        cases b with
        | false => exact .inl ⟨rfl, e⟩
        | true =>
          refine .inr ⟨rfl, ?_⟩
          cases he : elt l' h1 with
          | bad => simp only [Res.nox, Res.bind, he] at e; cases e
          | exc z h3 => simp only [Res.nox, Res.bind, he] at e; cases e
          | ok y h3 =>
            simp only [Res.nox, Res.bind, he] at e
            cases y with
            | dat y =>
              dsimp only at e
              simp only [if_true] at e
              split at e
              · rename_i hz
                exact ⟨y, h3, rfl, hz, e⟩
              · cases e
            | ref n => cases e
            | scr ns => cases e
  · cases e
theorem lcRun_noexc : ∀ (items acc : List PD) (h : Hd) (x : Xc) (h2 : Hd), lcRun p w tst elt l items acc h ≠ .exc x h2
  | [], acc, h, x, h2 => by
    unfold lcRun
    split <;> exact fun z => by cases z
  | d :: rest, acc, h, x, h2 => by
    rw [lcRun]
    split
    · split
      · exact fun z => by cases z
      · rename_i l' hb
        cases ht : tst l' h with
        | bad => exact fun z => by cases z
        | exc z h1 => exact fun z => by cases z
        | ok b h1 =>
          simp only [Res.nox, Res.bind]
          cases b with
          | false => exact lcRun_noexc rest acc h1 x h2
          | true =>
            simp only [if_true]
            cases he : elt l' h1 with
            | bad => exact fun z => by cases z
            | exc z h3 => exact fun z => by cases z
            | ok y h3 =>
              cases y with
              | dat y =>
                dsimp only
                split
                · exact lcRun_noexc rest _ h3 x h2
                · exact fun z => by cases z
              | ref n => exact fun z => by cases z
              | scr ns => exact fun z => by cases z
    · exact fun z => by cases z
end

theorem Stb.hide {r : Rho} {H : Hp} {p : Addr} {o : HO} (hp : H p = none) : Stb r H (r.hide p) (upd H p o) :=
  ⟨fun a u x y => ⟨rd_upd x (rd_ne x hp), y.1, fun z => (List.mem_cons.mp z).elim (rd_ne x hp) y.2⟩, fun a xs x y => by rw [upd_ne (ne_of_none x hp)]; exact x⟩
theorem off_hide {r : Rho} {p a : Addr} (h : Off (r.hide p) a) : a ≠ p ∧ Off r a := ⟨fun z => h.2 (by rw [z]; exact List.mem_cons_self), h.1, fun z => h.2 (List.mem_cons_of_mem _ z)⟩
theorem Stb.hid {r : Rho} {H : Hp} {p : Addr} {o : HO} : Stb (r.hide p) H (r.hide p) (upd H p o) :=
  ⟨fun a u x y => ⟨rd_upd x (off_hide y).1, y⟩, fun a xs x y => by rw [upd_ne (off_hide y).1]; exact x⟩
/-- the state within a comprehension: the new list at D is hidden -/
structure LcSt (K : Frg) (S : Rho → Hp → Prop) (l : Loc) (σ : L2.St) (D : Addr) (r1 : Rho) (H1 : Hp) (r0 : Rho) (H : Hp) (h : Hd) (acc : List PD) (av : List V) : Prop where
  e : Ext r1 H1 r0 H
  rl : RL K (r0.hide D) H l σ
  rh : RH K (r0.hide D) H h
  s : S (r0.hide D) H
  d : H D = some (.lst av)
  a : RPs K (r0.hide D) H av acc
section
variable {K : Frg} {S : Rho → Hp → Prop} {l : Loc} {σ : L2.St} {D : Addr} {r1 r0 : Rho} {H1 H : Hp} {h : Hd} {acc : List PD} {av : List V} {J : It} {w : Walk}
theorem LcSt.start (hD : H1 D = none) (it : ItOk K J w S) (rl : RL K r1 H1 l σ) (rh : RH K r1 H1 h) (s : S r1 H1) : LcSt K S l σ D r1 H1 r1 (upd H1 D (.lst [])) h [] [] := by
  have st : Ex0 r1 H1 (r1.hide D) (upd H1 D (.lst [])) := ⟨.hide hD, ⟨[], by simp [Rho.hide]⟩⟩
  exact ⟨.same rh.tr (same_new hD), rl.ext0 st, rh.hide hD, it.stab _ _ _ _ s st, upd_same, .nil⟩
/-- the heap goes on -/
theorem LcSt.on (q : LcSt K S l σ D r1 H1 r0 H h acc av) (hD : H1 D = none) (it : ItOk K J w S) {r' : Rho} {H' : Hp} {h' : Hd} (e : Ext (r0.hide D) H r' H') (rh : RH K r' H' h') : ∃ r0', r' = r0'.hide D ∧ LcSt K S l σ D r1 H1 r0' H' h' acc av := by
  obtain ⟨at', hid'⟩ := r'
  have hh : hid' = D :: r0.hid := e.hd
  subst hh
  refine ⟨⟨at', r0.hid⟩, rfl, ⟨⟨⟨fun a u x y => ?_, fun a xs x y => ?_⟩, ?_, q.e.hd, fun a ha => ?_⟩, q.rl.ext0 e.e0, rh, it.stab _ _ _ _ q.s e.e0, ?_, q.a.ext e⟩⟩
  · obtain ⟨x1, y1⟩ := q.e.stb.rd a u x y
    have hne : a ≠ D := rd_ne x hD
    have of : Off (r0.hide D) a := ⟨y1.1, fun z => (List.mem_cons.mp z).elim hne y1.2⟩
    obtain ⟨x2, y2⟩ := e.stb.rd a u x1 of
    exact ⟨x2, (off_hide (r := ⟨at', r0.hid⟩) (p := D) y2).2⟩
  · have y1 := (q.e.stb.rd a _ (.inl x) y).2
    have hne : a ≠ D := ne_of_none x hD
    exact e.stb.ex a xs (q.e.stb.ex a xs x y) ⟨y1.1, fun z => (List.mem_cons.mp z).elim hne y1.2⟩
  · obtain ⟨t, e1⟩ := q.e.pre
    obtain ⟨t', e2⟩ := e.pre
    exact ⟨t ++ t', by
      have e2' : at' = r0.at_ ++ t' := e2
      show at' = _
      rw [e2', e1]
      simp⟩
  · have h1 : a ∈ r0.hid := by rw [q.e.hd]; exact ha
    exact (e.hk a (List.mem_cons_of_mem _ h1)).trans (q.e.hk a ha)
  · exact (e.hk D List.mem_cons_self).trans q.d
/-- one more item -/
theorem LcSt.put (q : LcSt K S l σ D r1 H1 r0 H h acc av) (hD : H1 D = none) (rh1 : ∀ a ∈ r1.hid, H1 a ≠ none) (it : ItOk K J w S) {v : V} {d : PD} (rv : RP K (r0.hide D) H v d) : LcSt K S l σ D r1 H1 r0 (upd H D (.lst (av ++ [v]))) h (acc ++ [d]) (av ++ [v]) := by
  have st : Ex0 (r0.hide D) H (r0.hide D) (upd H D (.lst (av ++ [v]))) := ⟨.hid, ⟨[], by simp⟩⟩
  refine ⟨⟨⟨fun a u x y => ?_, fun a xs x y => ?_⟩, q.e.pre, q.e.hd, fun a ha => ?_⟩, q.rl.ext0 st, ⟨q.rh.nd, q.rh.len, fun n o a h1 h2 => ?_, fun a ha => ⟨?_, (q.rh.hd a ha).2⟩⟩, it.stab _ _ _ _ q.s st, upd_same, RPs.mono st.stb _ _ (q.a.append (.cons rv .nil))⟩
  · obtain ⟨x1, y1⟩ := q.e.stb.rd a u x y
    exact ⟨rd_upd x1 (rd_ne x hD), y1⟩
  · rw [upd_ne (ne_of_none x hD)]
    exact q.e.stb.ex a xs x y
  · have hne : a ≠ D := fun z => rh1 a ha (by rw [z]; exact hD)
    rw [upd_ne hne]
    exact q.e.hk a ha
  · have hne : a ≠ D := fun z => (q.rh.hd D List.mem_cons_self).2 (by rw [← z]; exact List.mem_of_getElem? h2)
    exact (q.rh.ob n o a h1 h2).keep st.stb (upd_ne hne)
  · by_cases z : a = D
    · rw [z, upd_same]; exact fun z => by cases z
    · rw [upd_ne z]; exact (q.rh.hd a ha).1
/-- the new list comes into sight -/
theorem LcSt.fin {ca : Str → Option Addr} {W : WX} {m : Bool} {Q : VK} (q : LcSt K S l σ D r1 H1 r0 H h acc av) (hD : H1 D = none) (rh1 : ∀ a ∈ r1.hid, H1 a ≠ none) (g : Go K ca W r1 H1 σ (mkL m acc h) (kQ K Q)) : Q (.ref D) H := by
  have hDa : D ∉ r0.at_ := (q.rh.hd D List.mem_cons_self).2
  have hDh : D ∉ r0.hid := fun z => rh1 D (by rw [← q.e.hd]; exact z) hD
  cases m with
  | false =>
    have st : Stb (r0.hide D) H r0 H := ⟨fun a u x y => ⟨x, (off_hide y).2⟩, fun a xs x _ => x⟩
    refine g r0 H q.e ⟨q.rh.nd, q.rh.len, fun n o a h1 h2 => (q.rh.ob n o a h1 h2).keep st rfl, fun a ha => q.rh.hd a (List.mem_cons_of_mem _ ha)⟩ _ (RP.lst q.d ⟨hDa, hDh⟩ (RPs.mono st _ _ q.a))
  | true =>
    have st : Stb (r0.hide D) H (r0.push D) H := ⟨fun a u x y => ⟨x, fun z => (List.mem_append.mp z).elim (off_hide y).2.1 (fun z => (off_hide y).1 (by simpa using z)), (off_hide y).2.2⟩, fun a xs x _ => x⟩
    have e : Ext r1 H1 (r0.push D) H := by
      refine ⟨⟨fun a u x y => ?_, q.e.stb.ex⟩, ?_, q.e.hd, q.e.hk⟩
      · obtain ⟨x1, y1⟩ := q.e.stb.rd a u x y
        exact ⟨x1, fun z => (List.mem_append.mp z).elim y1.1 (fun z => rd_ne x hD (by simpa using z)), y1.2⟩
      · obtain ⟨t, e1⟩ := q.e.pre
        exact ⟨t ++ [D], by simp [Rho.push, e1]⟩
    have hl : r0.at_.length = h.length := q.rh.len
    refine g (r0.push D) H e ⟨?_, by simp [Rho.push, hl], fun n o a h1 h2 => ?_, fun a ha => ?_⟩ _ ⟨D, ?_, rfl⟩
    · show (r0.at_ ++ [D]).Nodup
      rw [List.nodup_append]
      refine ⟨q.rh.nd, by simp, fun x hx y hy z => ?_⟩
      have ey : y = D := by simpa using hy
      subst ey
      subst z
      exact hDa hx
    · have h2 : (r0.at_ ++ [D])[n]? = some a := h2
      by_cases hn : n < h.length
      · rw [List.getElem?_append_left hn] at h1
        rw [List.getElem?_append_left (by rw [hl]; exact hn)] at h2
        exact (q.rh.ob n o a h1 h2).keep st rfl
      · have e1 : n = h.length := by
          have := (List.getElem?_eq_some_iff.mp h1).1
          simp at this
          omega
        subst e1
        rw [List.getElem?_append_right (Nat.le_refl _)] at h1
        rw [← hl, List.getElem?_append_right (Nat.le_refl _)] at h2
        simp at h1 h2
        subst h1
        subst h2
        exact ⟨av, q.d, RPs.mono st _ _ q.a⟩
    · obtain ⟨z1, z2⟩ := q.rh.hd a (List.mem_cons_of_mem _ ha)
      refine ⟨z1, fun z => (List.mem_append.mp z).elim z2 fun z => ?_⟩
      have ey : a = D := by simpa using z
      exact hDh (by rw [← ey]; exact ha)
    · rw [← hl]
      simp [Rho.push]
end
abbrev W0 : WX := fun _ _ _ _ => False
section
variable {K : Frg} {ca : Str → Option Addr} {W : WX}
theorem lc_read {p : Pt} {fi : Loc → Hd → Res Walk} {ft : Loc → Hd → Res Bool} {fe : Loc → Hd → Res D} {m : Bool} {σ : L2.St} {H : Hp} {Q : VK}
    (q : tE K ca W (fun l h => (fi l h).bind fun w h1 => (lcRun p w ft fe l w.items [] h1).bind fun ds h2 => mkL m ds h2) σ H Q) : tLc (tI K ca W fi) (gP K p) (tT K ca W0 ft) (tE K ca W0 fe) p.slots σ H Q := by
  obtain ⟨r, l, h, rl, rh, g⟩ := q
  refine ⟨r, l, h, rl, rh, g.bind.imp fun w h1 r1 H1 e1 rh1 g1 J S it s1 D hD => ?_⟩
  have hh : ∀ a ∈ r1.hid, H1 a ≠ none := fun a ha => (rh1.hd a ha).1
  obtain ⟨ds, h2, hR⟩ : ∃ ds h2, lcRun p w ft fe l w.items [] h1 = .ok ds h2 := by
    cases hR : lcRun p w ft fe l w.items [] h1 with
    | ok ds h2 => exact ⟨ds, h2, rfl⟩
    | exc x h2 => exact absurd hR (lcRun_noexc _ _ _ _ _)
    | bad => rw [hR] at g1; exact False.elim g1
  rw [hR] at g1
  have g1 : Go K ca W r1 H1 σ (mkL m ds h2) (kQ K Q) := g1
  refine ⟨fun i n H => n = w.items.length - i ∧ i ≤ w.items.length ∧ ∃ r0 h acc av, LcSt K S l σ D r1 H1 r0 H h acc av ∧ lcRun p w ft fe l (w.items.drop i) acc h = .ok ds h2,
    ⟨_, rfl, Nat.zero_le _, r1, h1, [], [], .start hD it (rl.ext e1) rh1 s1, by rw [List.drop_zero]; exact hR⟩, ?_⟩
  rintro i n H ⟨rfl, hi, r0, h, acc, av, st, hL⟩
  by_cases hlt : i < w.items.length
  · rw [List.drop_eq_getElem_cons hlt] at hL
    obtain ⟨hs, l', b, h3, hb, ht, hrest⟩ := lcRun_cons hL
    obtain ⟨go, yl⟩ := it.go i _ _ _ _ st.s st.rh hs (List.getElem?_eq_getElem hlt)
    refine .inr ⟨go, fun H' => w.items.length - (i + 1) = w.items.length - (i + 1) ∧ i + 1 ≤ w.items.length ∧ ∃ r0 h acc av, LcSt K S l σ D r1 H1 r0 H' h acc av ∧ lcRun p w ft fe l (w.items.drop (i + 1)) acc h = .ok ds h2, fun H' q => ⟨_, by omega, q⟩, fun x H' hy => ?_⟩
    obtain ⟨sm, rx⟩ := yl x H' hy
    obtain ⟨r0', er, st'⟩ := st.on hD it (Ext.same st.rh.tr sm) (st.rh.same sm)
    have er' : r0' = r0 := by
      cases r0; cases r0'
      simp only [Rho.hide, Rho.mk.injEq, List.cons.injEq] at er ⊢
      exact ⟨er.1.symm, er.2.2.symm⟩
    subst er'
    refine ⟨r0'.hide D, wipeL l p.slots, _, l', st'.rl.wipe p.slots, rx, hb, fun σ2 rl2 ag => ⟨by rw [wipe_eq ag, wipe_wipe], r0'.hide D, l', h, rl2, st'.rh, ?_⟩⟩
    rw [ht]
    intro r3 H3 e3 rh3
    obtain ⟨r4, rfl, st3⟩ := st'.on hD it e3 rh3
    rcases hrest with ⟨rfl, hL⟩ | ⟨rfl, y, h5, hy5, hz, hL⟩
    · dsimp only [kT]
      rw [if_neg Bool.false_ne_true]
      exact ⟨rfl, hlt, r4, h3, acc, av, st3, hL⟩
    · dsimp only [kT]
      rw [if_pos rfl]
      refine ⟨r4.hide D, l', h3, rl2.ext e3, rh3, ?_⟩
      rw [hy5]
      intro r5 H5 e5 rh5 v rv
      obtain ⟨r6, rfl, st5⟩ := st3.on hD it e5 rh5
      exact ⟨av, st5.d, by rw [st5.a.length]; exact hz, rfl, hlt, r6, h5, acc ++ [y], av ++ [v], st5.put hD hh it rv, hL⟩
  · have e : i = w.items.length := by omega
    subst e
    rw [List.drop_length] at hL
    obtain ⟨hs, rfl, rfl⟩ := lcRun_nil hL
    exact .inl ⟨it.stop _ _ _ _ st.s st.rh hs (Nat.le_refl _), st.fin hD hh g1⟩
end
end Mi

/-! Mi: statements. -/
namespace Mi
open PySem PySem.Spec PyProof.Rows L2

def GoS (K : Frg) (ca : Str → Option Addr) (W : WX) (Dn : Ends) (r : Rho) (H : Hp) (o : Out) : Prop := match o with
  | .nx l h => ∀ r' H' σ', Ext r H r' H' → RH K r' H' h → RL K r' H' l σ' → Dn.nx σ' H'
  | .bk l h => ∀ r' H' σ', Ext r H r' H' → RH K r' H' h → RL K r' H' l σ' → Dn.bk σ' H'
  | .ct l h => ∀ r' H' σ', Ext r H r' H' → RH K r' H' h → RL K r' H' l σ' → Dn.ct σ' H'
  | .rt d h => ∀ r' H' v, Ext r H r' H' → RH K r' H' h → RV K r' H' v d → Dn.rt v H'
  | .exc x l h => ∀ r' H' σ' cls dd, Ext r H r' H' → RH K r' H' h → RL K r' H' l σ' → RX K ca r' H' x cls dd → W cls dd σ' H'
  | .bad => False
def tS (K : Frg) (ca : Str → Option Addr) (W : WX) (g : Loc → Hd → Out) : TS := fun Dn σ H => ∃ r l h, RL K r H l σ ∧ RH K r H h ∧ GoS K ca W Dn r H (g l h)
section
variable {K : Frg} {ca : Str → Option Addr} {W : WX} {r r' : Rho} {H H' : Hp} {σ : L2.St} {Dn Dm : Ends}
theorem GoS.mono {o : Out} (g : GoS K ca W Dn r H o) (e : Ext r H r' H') : GoS K ca W Dn r' H' o := by
  cases o with
  | nx l h => exact fun r1 H1 s1 e1 q1 q2 => g r1 H1 s1 (e.trans e1) q1 q2
  | bk l h => exact fun r1 H1 s1 e1 q1 q2 => g r1 H1 s1 (e.trans e1) q1 q2
  | ct l h => exact fun r1 H1 s1 e1 q1 q2 => g r1 H1 s1 (e.trans e1) q1 q2
  | rt d h => exact fun r1 H1 s1 e1 q1 q2 => g r1 H1 s1 (e.trans e1) q1 q2
  | exc x l h => exact fun r1 H1 s1 c d e1 q1 q2 q3 => g r1 H1 s1 c d (e.trans e1) q1 q2 q3
  | bad => exact g
theorem Go.of_out {α : Type} {l : Loc} {x : Res α} {f : α → Hd → Out} (rl : RL K r H l σ) (g : GoS K ca W Dn r H (x.out l f)) : Go K ca W r H σ x fun a h' r' H' => GoS K ca W Dn r' H' (f a h') := by
  cases x with
  | ok a h => exact fun r1 H1 e1 q => GoS.mono (o := f a h) g e1
  | exc x h => exact fun r1 H1 e1 q cls dd rx => g r1 H1 σ cls dd e1 q (rl.ext e1) rx
  | bad => exact g
end
theorem RVs.one {K : Frg} {r : Rho} {H : Hp} {vs : List V} {d : D} (h : RVs K r H vs [d]) : ∃ v, vs = [v] ∧ RV K r H v d := by
  cases h with
  | cons h1 h2 => cases h2; exact ⟨_, rfl, h1⟩
theorem RVs.two {K : Frg} {r : Rho} {H : Hp} {vs : List V} {d e : D} (h : RVs K r H vs [d, e]) : ∃ v w, vs = [v, w] ∧ RV K r H v d ∧ RV K r H w e := by
  cases h with
  | cons h1 h2 =>
    obtain ⟨w, rfl, h3⟩ := h2.one
    exact ⟨_, w, rfl, h1, h3⟩
theorem RVs.three {K : Frg} {r : Rho} {H : Hp} {vs : List V} {d e f : D} (h : RVs K r H vs [d, e, f]) : ∃ v w u, vs = [v, w, u] ∧ RV K r H v d ∧ RV K r H w e ∧ RV K r H u f := by
  cases h with
  | cons h1 h2 =>
    obtain ⟨w, u, rfl, h3, h4⟩ := h2.two
    exact ⟨_, w, u, rfl, h1, h3, h4⟩
theorem setAll0 {ds : List D} {l l' : Loc} (h : setAll [] ds l = some l') : ds = [] ∧ l' = l := by
  cases ds with
  | nil => cases h; exact ⟨rfl, rfl⟩
  | cons d ds => cases h
theorem setAll1 {i : Nat} {is : List Nat} {ds : List D} {l l' : Loc} (h : setAll (i :: is) ds l = some l') : ∃ d r, ds = d :: r ∧ setAll is r (l.set i (some d)) = some l' := by
  cases ds with
  | nil => cases h
  | cons d ds => exact ⟨d, ds, rfl, h⟩
theorem setAll2 {i j : Nat} {ds : List D} {l l' : Loc} (h : setAll [i, j] ds l = some l') : ∃ d e, ds = [d, e] ∧ l' = (l.set i (some d)).set j (some e) := by
  obtain ⟨d, r, rfl, h1⟩ := setAll1 h
  obtain ⟨e, r2, rfl, h2⟩ := setAll1 h1
  obtain ⟨rfl, rfl⟩ := setAll0 h2
  exact ⟨d, e, rfl, rfl⟩
theorem setAll3 {i j k : Nat} {ds : List D} {l l' : Loc} (h : setAll [i, j, k] ds l = some l') : ∃ d e f, ds = [d, e, f] ∧ l' = ((l.set i (some d)).set j (some e)).set k (some f) := by
  obtain ⟨d, r, rfl, h1⟩ := setAll1 h
  obtain ⟨e, f, rfl, rfl⟩ := setAll2 h1
  exact ⟨d, e, f, rfl, rfl⟩
theorem putRun_some {h h' : Hd} {x y z : D} (e : putRun h x y z = some h') : ∃ n xs d k j, y = .ref n ∧ x = .dat d ∧ z = .dat (.int k) ∧ h[n]? = some (.lst xs) ∧ L2.ixN xs.length k = some j ∧ h' = h.set n (.lst (xs.set j d)) := by
  cases y with
  | ref n =>
    cases hn : h[n]? with
    | none => simp only [putRun, hn] at e; cases e
    | some ob =>
      cases ob with
      | dct es => simp only [putRun, hn] at e; cases e
      | lst xs =>
        simp only [putRun, hn] at e
        cases x with
        | dat d =>
          cases z with
          | dat z =>
            cases z with
            | int k =>
              dsimp only at e
              cases hj : L2.ixN xs.length k with
              | none => rw [hj] at e; cases e
              | some j =>
                rw [hj] at e
                cases e
                exact ⟨n, xs, d, k, j, rfl, rfl, rfl, hn, hj, rfl⟩
            | _ => cases e
          | ref _ => cases e
          | scr _ => cases e
        | ref _ => cases e
        | scr _ => cases e
  | dat _ => cases e
  | scr _ => cases e
theorem augP_some {op : Operator} {x y : D} {z : PD} (e : augP op x y = some z) : ∃ m n, x = .dat (.int m) ∧ y = .dat (.int n) ∧ augI op m n = some z := by
  cases x with
  | dat x =>
    cases x with
    | int m =>
      cases y with
      | dat y =>
        cases y with
        | int n => exact ⟨m, n, rfl, rfl, e⟩
        | _ => cases e
      | ref _ => cases e
      | scr _ => cases e
    | _ => cases e
  | ref _ => cases e
  | scr _ => cases e
section
variable {X : Cx} {ca : Str → Option Addr} {W : WX} {a b c o i e tg : Expr} {fa fb fc : Loc → Hd → Res D} {pos pos' : Pos} {st : Stmt} {sts us : List Stmt} {ga gb : Loc → Hd → Out}
theorem ps_imp {t t' : TS} (h : PS X st t) (i : ∀ D σ H, t' D σ H → t D σ H) : PS X st t' := ⟨fun pins s σ H D I w => h.run pins s σ H D I (i D σ H w)⟩
theorem pss_imp {t t' : TS} (h : PSs X sts t) (i : ∀ D σ H, t' D σ H → t D σ H) : PSs X sts t' := ⟨fun pins s σ H D I w => h.run pins s σ H D I (i D σ H w)⟩
theorem snd_ss0 : PSs X [] (tS X.K ca W fun l h => .nx l h) := pss_imp pss_nil fun D σ H ⟨r, l, h, rl, rh, g⟩ => g r H σ (.refl r H) rh rl
theorem snd_ss (h1 : PS X st (tS X.K ca W ga)) (h2 : PSs X sts (tS X.K ca W gb)) : PSs X (st :: sts) (tS X.K ca W fun l h => match ga l h with
    | .nx l1 h1 => gb l1 h1
    | o => o) := by
  refine pss_imp (pss_cons h1 h2) fun D σ H ⟨r, l, h, rl, rh, g⟩ => ⟨r, l, h, rl, rh, ?_⟩
  dsimp only at g
  cases hg : ga l h with
  | nx l1 h1 =>
    rw [hg] at g
    exact fun r1 H1 s1 e1 q1 q2 => ⟨r1, l1, h1, q2, q1, GoS.mono (o := gb l1 h1) g e1⟩
  | bk l1 h1 => rw [hg] at g; exact g
  | ct l1 h1 => rw [hg] at g; exact g
  | rt d h1 => rw [hg] at g; exact g
  | exc x l1 h1 => rw [hg] at g; exact g
  | bad => rw [hg] at g; exact g
theorem snd_pas : PS X (.Pass pos) (tS X.K ca W fun l h => .nx l h) := ps_imp ps_pass fun D σ H ⟨r, l, h, rl, rh, g⟩ => g r H σ (.refl r H) rh rl
theorem snd_brk : PS X (.Break pos) (tS X.K ca W fun l h => .bk l h) := ps_imp ps_break fun D σ H ⟨r, l, h, rl, rh, g⟩ => g r H σ (.refl r H) rh rl
theorem snd_cnt : PS X (.Continue pos) (tS X.K ca W fun l h => .ct l h) := ps_imp ps_continue fun D σ H ⟨r, l, h, rl, rh, g⟩ => g r H σ (.refl r H) rh rl
theorem snd_stop : PS X st (tS X.K ca W fun _ _ => .bad) := ps_imp ps_never fun D σ H ⟨r, l, h, rl, rh, g⟩ => g
theorem snd_retN : PS X (.Return none pos) (tS X.K ca W fun _ h => .rt (.dat .none) h) := ps_imp ps_retN fun D σ H ⟨r, l, h, rl, rh, g⟩ => g r H .non (.refl r H) rh RP.non
theorem snd_ret (ha : PE X a (tE X.K ca W fa)) : PS X (.Return (some a) pos) (tS X.K ca W fun l h => (fa l h).out l fun x h1 => .rt x h1) := by
  refine ps_imp (ps_ret ha) fun D σ H ⟨r, l, h, rl, rh, g⟩ => ⟨r, l, h, rl, rh, (Go.of_out rl g).imp fun x h1 r1 H1 e1 rh1 g1 v rv => ?_⟩
  exact g1 r1 H1 v (.refl r1 H1) rh1 rv
theorem snd_exp (ha : PE X a (tE X.K ca W fa)) (hs : swapsWith a none pos.line X.env = pure false) : PS X (.Expr a pos) (tS X.K ca W fun l h => (fa l h).out l fun _ h1 => .nx l h1) := by
  refine ps_imp (ps_expr ha hs) fun D σ H ⟨r, l, h, rl, rh, g⟩ => ⟨r, l, h, rl, rh, (Go.of_out rl g).imp fun x h1 r1 H1 e1 rh1 g1 v rv => ?_⟩
  exact g1 r1 H1 σ (.refl r1 H1) rh1 (rl.ext e1)
theorem snd_doc {x : Str} {j : Nat} {p2 : Pos} : PS X (.Expr (.Constant (.str x) j p2) pos) (tS X.K ca W fun l h => .nx l h) := ps_imp ps_doc fun D σ H ⟨r, l, h, rl, rh, g⟩ => g r H σ (.refl r H) rh rl
/-- name = e: the reading -/
theorem asg_read {K : Frg} {i : Nat} {D : Ends} {σ : L2.St} {H : Hp} (q : tS K ca W (fun l h => (fa l h).out l fun x h1 => .nx (l.set i (some x)) h1) D σ H) : tAsg (tE K ca W fa) (gName i) D σ H := by
  obtain ⟨r, l, h, rl, rh, g⟩ := q
  refine ⟨r, l, h, rl, rh, (Go.of_out rl g).imp fun x h1 r1 H1 e1 rh1 g1 v rv => ?_⟩
  exact g1 r1 H1 _ (.refl r1 H1) rh1 ((rl.ext e1).set rv i)
theorem snd_asg {i : Nat} {x : Str} (hN : X.N.Nodup) (hi : X.N[i]? = some x) (hx : L2.Loc X.env.scope x) (hf : X.fn x = true ∨ X.env.scope.names.lookup x = some .local) (ha : PE X a (tE X.K ca W fa)) (hs : swapsWith a (some (.Name x pos')) pos.line X.env = pure false) :
    PS X (.Assign [.Name x pos'] a pos) (tS X.K ca W fun l h => (fa l h).out l fun x h1 => .nx (l.set i (some x)) h1) := ps_imp (ps_set hN hi hx ha hs hf) fun D σ H q => asg_read q
theorem snd_asgP {ps : Pts} {k : Nat} {es : List Expr} (ha : PE X a (tE X.K ca W fa)) (hg : PG X (.Tuple es k pos') (gP X.K (.tp ps))) (hs : swapsWithSole [.Tuple es k pos'] a pos.line X.env = pure false) (hw : swappedStores [.Tuple es k pos'] a X.env = pure none) :
    PS X (.Assign [.Tuple es k pos'] a pos) (tS X.K ca W fun l h => (fa l h).out l fun x h1 => match x with
      | .dat d => match bindP (.tp ps) d l with
        | some l' => .nx l' h1
        | none => .bad
      | _ => .bad) := by
  refine ps_imp (ps_asg ha hg hs hw rfl) fun D σ H ⟨r, l, h, rl, rh, g⟩ => ⟨r, l, h, rl, rh, (Go.of_out rl g).imp fun x h1 r1 H1 e1 rh1 g1 v rv => ?_⟩
  cases x with
  | dat d =>
    dsimp only at g1
    split at g1
    · rename_i l' hb
      exact ⟨r1, l, d, l', rl.ext e1, rv, hb, fun σ' rl' _ => g1 r1 H1 σ' (.refl r1 H1) rh1 rl'⟩
    · exact False.elim g1
  | ref n => exact False.elim g1
  | scr ns => exact False.elim g1
theorem snd_par2 {i j : Nat} {x y : Str} {px py pt : Pos} {kt k2 : Nat} {pt2 : Pos} {fs : Loc → Hd → Res (List D)} (hc : X.calm = true) (hN : X.N.Nodup) (hi : X.N[i]? = some x) (hj : X.N[j]? = some y) (hij : i ≠ j)
    (hx : X.env.scope.names.lookup x = some .local) (hy : X.env.scope.names.lookup y = some .local) (ha : PA X [a, b] (tA X.K ca W fs))
    (hw : swappedStores [.Tuple [.Name x px, .Name y py] kt pt] (.Tuple [a, b] k2 pt2) X.env = pure (some [x, y])) :
    PS X (.Assign [.Tuple [.Name x px, .Name y py] kt pt] (.Tuple [a, b] k2 pt2) pos) (tS X.K ca W fun l h => (fs l h).out l fun ds h1 => match setAll [i, j] ds l with
      | some l' => .nx l' h1
      | none => .bad) := by
  refine ps_imp (ps_par hc hN hi hj hij hx hy ha hw rfl) fun D σ H ⟨r, l, h, rl, rh, g⟩ => ⟨r, l, h, rl, rh, (Go.of_out rl g).imp fun ds h1 r1 H1 e1 rh1 g1 vs rvs => ?_⟩
  cases hb : setAll [i, j] ds l with
  | none => rw [hb] at g1; exact False.elim g1
  | some l' =>
    rw [hb] at g1
    obtain ⟨d1, d2, rfl, rfl⟩ := setAll2 hb
    obtain ⟨v, w, rfl, r2, r3⟩ := rvs.two
    exact ⟨v, w, rfl, g1 r1 H1 _ (.refl r1 H1) rh1 (((rl.ext e1).set r2 i).set r3 j)⟩
theorem snd_par3 {i j k : Nat} {x y z : Str} {px py pz pt : Pos} {kt k2 : Nat} {pt2 : Pos} {fs : Loc → Hd → Res (List D)} (hc : X.calm = true) (hN : X.N.Nodup) (hi : X.N[i]? = some x) (hj : X.N[j]? = some y) (hk : X.N[k]? = some z) (hij : i ≠ j) (hik : i ≠ k) (hjk : j ≠ k)
    (hx : X.env.scope.names.lookup x = some .local) (hy : X.env.scope.names.lookup y = some .local) (hz : X.env.scope.names.lookup z = some .local) (ha : PA X [a, b, c] (tA X.K ca W fs))
    (hw : swappedStores [.Tuple [.Name x px, .Name y py, .Name z pz] kt pt] (.Tuple [a, b, c] k2 pt2) X.env = pure (some [x, y, z])) :
    PS X (.Assign [.Tuple [.Name x px, .Name y py, .Name z pz] kt pt] (.Tuple [a, b, c] k2 pt2) pos) (tS X.K ca W fun l h => (fs l h).out l fun ds h1 => match setAll [i, j, k] ds l with
      | some l' => .nx l' h1
      | none => .bad) := by
  refine ps_imp (ps_par3 hc hN hi hj hk hij hik hjk hx hy hz ha hw rfl) fun D σ H ⟨r, l, h, rl, rh, g⟩ => ⟨r, l, h, rl, rh, (Go.of_out rl g).imp fun ds h1 r1 H1 e1 rh1 g1 vs rvs => ?_⟩
  cases hb : setAll [i, j, k] ds l with
  | none => rw [hb] at g1; exact False.elim g1
  | some l' =>
    rw [hb] at g1
    obtain ⟨d1, d2, d3, rfl, rfl⟩ := setAll3 hb
    obtain ⟨v, w, u, rfl, r2, r3, r4⟩ := rvs.three
    exact ⟨v, w, u, rfl, g1 r1 H1 _ (.refl r1 H1) rh1 ((((rl.ext e1).set r2 i).set r3 j).set r4 k)⟩
theorem snd_put {tpos : Pos} (hv : PE X a (tE X.K ca W fa)) (ho : PE X o (tE X.K ca W fb)) (hi : PE X i (tE X.K ca W fc)) (hs : swapsWithSole [.Subscript o i tpos] a pos.line X.env = pure false) (hw : swappedStores [.Subscript o i tpos] a X.env = pure none)
    (hns : ∀ v, assign (.Subscript o i tpos) X.env v = (do
      let ov ← holding [v] (eval o X.env)
      let iv ← holding [v, ov] (eval i X.env)
      standAt tpos
      holding [v, ov, iv] (setItem ov iv v)
      release [v, ov, iv] [])) :
    PS X (.Assign [.Subscript o i tpos] a pos) (tS X.K ca W fun l h => (fa l h).out l fun x h1 => (fb l h1).out l fun y h2 => (fc l h2).out l fun z h3 => match putRun h3 x y z with
      | some h4 => .nx l h4
      | none => .bad) := by
  refine ps_imp (ps_asg hv (pg_sub ho hi set_list hns) hs hw rfl) fun D σ H ⟨r, l, h, rl, rh, g⟩ => ?_
  refine ⟨r, l, h, rl, rh, (Go.of_out rl g).imp fun x h1 r1 H1 e1 rh1 g1 v rv => ?_⟩
  refine ⟨r1, l, h1, rl.ext e1, rh1, (Go.of_out (rl.ext e1) g1).imp fun y h2 r2 H2 e2 rh2 g2 u ru => ?_⟩
  refine ⟨r2, l, h2, (rl.ext e1).ext e2, rh2, (Go.of_out ((rl.ext e1).ext e2) g2).imp fun z h3 r3 H3 e3 rh3 g3 t rt => ?_⟩
  have rl3 := ((rl.ext e1).ext e2).ext e3
  cases hp : putRun h3 x y z with
  | none => rw [hp] at g3; exact False.elim g3
  | some h4 =>
    rw [hp] at g3
    obtain ⟨n, xs, d, k, j, rfl, rfl, rfl, hx, hj, rfl⟩ := putRun_some hp
    have rv3 : RP X.K r3 H3 v d := RV.ext (d := .dat d) rv (e2.trans e3)
    obtain ⟨q, hq, rfl⟩ := ru.ext e3
    have rt' : RP X.K r3 H3 t (.int k) := rt
    cases rt'
    obtain ⟨ys, h5, h6⟩ := rh3.ob n _ q hx hq
    have hm : q ∈ r3.at_ := List.mem_of_getElem? hq
    have e : Ext r3 H3 r3 (upd H3 q (.lst (ys.set j v))) := .mut hm (rh3.nohid hm)
    exact ⟨q, ys, k, j, rfl, rfl, h5, by rw [h6.length]; exact hj, g3 r3 _ σ e (rh3.set hq ⟨_, upd_same, (h6.set rv3 j).ext e⟩) (rl3.ext e)⟩
theorem snd_aug {op : Operator} {i : Nat} {x : Str} (hN : X.N.Nodup) (hi : X.N[i]? = some x) (hx : L2.Loc X.env.scope x) (hf : X.fn x = true ∨ X.env.scope.names.lookup x = some .local) (hop : op = .Add ∨ op = .Sub) (ha : PE X a (tE X.K ca W fa)) :
    PS X (.AugAssign (.Name x pos') op a pos) (tS X.K ca W fun l h => match l[i]? with
      | some (some x) => (fa l h).out l fun y h1 => match augP op x y with
        | some z => .nx (l.set i (some (.dat z))) h1
        | none => .bad
      | _ => .bad) := by
  have hip : PIp X op (fun x y H Q => ∃ i j z, x = .int i ∧ y = .int j ∧ augI op i j = some z ∧ ∀ v, (∀ K r H, RP K r H v z) → Q v H) := by
    rcases hop with rfl | rfl
    · exact fun pins s σ H x y v u Q I r1 r2 ⟨i, j, z, h1, h2, h3, k⟩ => ip_add pins s σ H x y v u Q I r1 r2 ⟨i, j, h1, h2, by cases h3; exact k _ fun _ _ _ => .int _⟩
    · exact fun pins s σ H x y v u Q I r1 r2 ⟨i, j, z, h1, h2, h3, k⟩ => ip_sub pins s σ H x y v u Q I r1 r2 ⟨i, j, h1, h2, by cases h3; exact k _ fun _ _ _ => .int _⟩
  refine ps_imp (ps_aug hN hi hx ha hip hf) fun D σ H ⟨r, l, h, rl, rh, g⟩ => ?_
  cases hd : l[i]? with
  | none => simp only [hd] at g; exact False.elim g
  | some od =>
    cases od with
    | none => simp only [hd] at g; exact False.elim g
    | some d =>
      simp only [hd] at g
      obtain ⟨v, h1, h2⟩ := rl.2 i d hd
      refine ⟨v, h1, r, l, h, rl, rh, (Go.of_out rl g).imp fun y h1 r1 H1 e1 rh1 g1 u ru => ?_⟩
      cases hz : augP op d y with
      | none => rw [hz] at g1; exact False.elim g1
      | some z =>
        rw [hz] at g1
        obtain ⟨m, n, rfl, rfl, hz'⟩ := augP_some hz
        have h2' : RP X.K r1 H1 v (.int m) := RV.ext (d := .dat (.int m)) h2 e1
        have ru' : RP X.K r1 H1 u (.int n) := ru
        cases h2'
        cases ru'
        exact ⟨m, n, z, rfl, rfl, hz', fun w hw => g1 r1 H1 _ (.refl r1 H1) rh1 ((rl.ext e1).set (d := .dat z) (hw _ _ _) i)⟩
theorem snd_ifs {ft : Loc → Hd → Res Bool} (hc : PT X c (tT X.K ca W ft)) (ha : PSs X sts (tS X.K ca W ga)) (hb : PSs X us (tS X.K ca W gb)) :
    PS X (.If c sts us pos) (tS X.K ca W fun l h => (ft l h).out l fun k h1 => if k then ga l h1 else gb l h1) := by
  refine ps_imp (ps_if hc ha hb) fun D σ H ⟨r, l, h, rl, rh, g⟩ => ⟨r, l, h, rl, rh, (Go.of_out rl g).imp fun k h1 r1 H1 e1 rh1 g1 => ?_⟩
  dsimp only [kT]
  cases k with
  | true =>
    rw [if_pos rfl]
    exact ⟨r1, l, h1, rl.ext e1, rh1, g1⟩
  | false =>
    rw [if_neg Bool.false_ne_true]
    exact ⟨r1, l, h1, rl.ext e1, rh1, g1⟩
/-! ### while -/
theorem whileF_run {c : Loc → Hd → Res Bool} {b : Loc → Hd → Out} {l : Loc} {h : Hd} (hb : whileF c b l h ≠ .bad) : ∃ n, whileN c b n l h = some (whileF c b l h) := by
  unfold whileF at hb ⊢
  split
  · rename_i z
    exact ⟨_, z.choose_spec.choose_spec⟩
  · rename_i z
    rw [dif_neg z] at hb
    exact absurd rfl hb
theorem snd_whl {ft : Loc → Hd → Res Bool} (hp : PassesOwn (model X.prog X.w) X.A X.env X.xe) (hc : PT X c (tT X.K ca W ft)) (hb : PSs X sts (tS X.K ca W gb)) :
    PS X (.While c sts [] pos) (tS X.K ca W fun l h => whileF ft gb l h) := by
  refine ps_imp (ps_while hp hc hb) fun D σ H ⟨r, l, h, rl, rh, g⟩ => ?_
  have hnb : whileF ft gb l h ≠ .bad := fun z => by
    dsimp only at g
    rw [z] at g
    exact g
  obtain ⟨n, hn⟩ := whileF_run hnb
  dsimp only at g
  generalize whileF ft gb l h = o at g hn
  refine ⟨fun m σ' H' => ∃ r' l' h', Ext r H r' H' ∧ RL X.K r' H' l' σ' ∧ RH X.K r' H' h' ∧ whileN ft gb m l' h' = some o, ⟨n, r, l, h, .refl r H, rl, rh, hn⟩, ?_⟩
  rintro m σ1 H1 ⟨r1, l1, h1, e1, rl1, rh1, hm⟩
  have g1 := g.mono e1
  cases m with
  | zero => cases hm
  | succ m =>
    simp only [whileN] at hm
    refine ⟨r1, l1, h1, rl1, rh1, ?_⟩
    cases hc1 : ft l1 h1 with
    | bad =>
      rw [hc1] at hm
      cases hm
      exact g1
    | exc x h2 =>
      rw [hc1] at hm
      cases hm
      exact fun r2 H2 e2 q2 cls dd rx => g1 r2 H2 σ1 cls dd e2 q2 (rl1.ext e2) rx
    | ok k h2 =>
      rw [hc1] at hm
      intro r2 H2 e2 rh2
      have rl2 := rl1.ext e2
      have g2 := g1.mono e2
      dsimp only [kT]
      cases k with
      | false =>
        rw [if_neg Bool.false_ne_true]
        dsimp only at hm
        cases hm
        exact g2 r2 H2 σ1 (.refl r2 H2) rh2 rl2
      | true =>
        rw [if_pos rfl]
        dsimp only at hm
        have e12 := e1.trans e2
        refine ⟨fun σ' H' => ∃ r' l' h', Ext r H r' H' ∧ RL X.K r' H' l' σ' ∧ RH X.K r' H' h' ∧ whileN ft gb m l' h' = some o, fun σ' H' q => ⟨m, Nat.lt_succ_self _, q⟩, r2, l1, h2, rl2, rh2, ?_⟩
        cases hb2 : gb l1 h2 with
        | nx l3 h3 =>
          rw [hb2] at hm
          exact fun r3 H3 s3 e3 q3 rl3 => ⟨r3, l3, h3, e12.trans e3, rl3, q3, hm⟩
        | ct l3 h3 =>
          rw [hb2] at hm
          exact fun r3 H3 s3 e3 q3 rl3 => ⟨r3, l3, h3, e12.trans e3, rl3, q3, hm⟩
        | bk l3 h3 => rw [hb2] at hm; cases hm; exact g2
        | rt d h3 => rw [hb2] at hm; cases hm; exact g2
        | exc x l3 h3 => rw [hb2] at hm; cases hm; exact g2
        | bad => rw [hb2] at hm; cases hm; exact g2
/-! ### for -/
theorem snd_for {p : Pt} {fi : Loc → Hd → Res Walk} {iter : Expr} (hp : PassesOwn (model X.prog X.w) X.A X.env X.xe) (hc : X.calm = true) (hi : PI X tg iter (tI X.K ca W fi)) (hg : PG X tg (gP X.K p)) (hb : PSs X sts (tS X.K ca W gb)) (hs : ∀ x, foldedSetIterable iter X.env x = pure x) :
    PS X (.For tg iter sts [] pos) (tS X.K ca W fun l h => (fi l h).out l fun w h1 => forRun p w gb w.items l h1) := by
  refine ps_imp (ps_for hp hc hi hg hb hs) fun D σ H ⟨r, l, h, rl, rh, g⟩ => ?_
  refine ⟨r, l, h, rl, rh, (Go.of_out rl g).imp fun w h1 r1 H1 e1 rh1 g1 J S it s1 => ?_⟩
  obtain ⟨o, ho⟩ : ∃ o, forRun p w gb w.items l h1 = o := ⟨_, rfl⟩
  rw [ho] at g1
  refine ⟨fun i n σ' H' => n = w.items.length - i ∧ i ≤ w.items.length ∧ ∃ r' l' h', Ext r1 H1 r' H' ∧ RL X.K r' H' l' σ' ∧ RH X.K r' H' h' ∧ S r' H' ∧ forRun p w gb (w.items.drop i) l' h' = o,
    ⟨_, rfl, Nat.zero_le _, r1, l, h1, .refl r1 H1, rl.ext e1, rh1, s1, by rw [List.drop_zero]; exact ho⟩, ?_⟩
  rintro i n σ2 H2 ⟨rfl, hi2, r2, l2, h2, e2, rl2, rh2, s2, ho2⟩
  have g2 := g1.mono e2
  by_cases hlt : i < w.items.length
  · rw [List.drop_eq_getElem_cons hlt, forRun] at ho2
    split at ho2
    · rename_i hst
      obtain ⟨go, yl⟩ := it.go i _ _ _ _ s2 rh2 hst (List.getElem?_eq_getElem hlt)
      refine .inr ⟨go, fun σ' H' => w.items.length - (i + 1) = w.items.length - (i + 1) ∧ i + 1 ≤ w.items.length ∧ ∃ r' l' h', Ext r1 H1 r' H' ∧ RL X.K r' H' l' σ' ∧ RH X.K r' H' h' ∧ S r' H' ∧ forRun p w gb (w.items.drop (i + 1)) l' h' = o, fun σ' H' q => ⟨_, by omega, q⟩, fun x H3 hy => ?_⟩
      obtain ⟨sm, rx⟩ := yl x H3 hy
      have e3 : Ext r2 H2 r2 H3 := .same rh2.tr sm
      split at ho2
      · subst ho2
        exact False.elim g2
      · rename_i l3 hb3
        refine ⟨r2, l2, _, l3, rl2.ext e3, rx, hb3, fun σ3 rl3 _ => ⟨r2, l3, h2, rl3, rh2.same sm, ?_⟩⟩
        have e23 := e2.trans e3
        cases hg3 : gb l3 h2 with
        | nx l4 h4 =>
          rw [hg3] at ho2
          exact fun r4 H4 s4 e4 q4 rl4 => ⟨rfl, hlt, r4, l4, h4, e23.trans e4, rl4, q4, it.stab _ _ _ _ s2 (e3.trans e4).e0, ho2⟩
        | ct l4 h4 =>
          rw [hg3] at ho2
          exact fun r4 H4 s4 e4 q4 rl4 => ⟨rfl, hlt, r4, l4, h4, e23.trans e4, rl4, q4, it.stab _ _ _ _ s2 (e3.trans e4).e0, ho2⟩
        | bk l4 h4 => rw [hg3] at ho2; subst ho2; exact g2.mono e3
        | rt d h4 => rw [hg3] at ho2; subst ho2; exact g2.mono e3
        | exc x l4 h4 => rw [hg3] at ho2; subst ho2; exact g2.mono e3
        | bad => rw [hg3] at ho2; subst ho2; exact g2.mono e3
    · subst ho2
      exact False.elim g2
  · have e : i = w.items.length := by omega
    subst e
    rw [List.drop_length, forRun] at ho2
    split at ho2
    · rename_i hst
      subst ho2
      exact .inl ⟨it.stop _ _ _ _ s2 rh2 hst (Nat.le_refl _), g2 r2 H2 σ2 (.refl r2 H2) rh2 rl2⟩
    · subst ho2
      exact False.elim g2
end
end Mi

/-! Mi: the checker: which text an instruction stands for. -/
namespace Mi
open PySem PySem.Spec PyProof.Rows L2

def isL (sc : Scope) (x : Str) : Bool := sc.names.lookup x == some .local
def isLC (sc : Scope) (x : Str) : Bool := sc.names.lookup x == some .local || sc.names.lookup x == some .cell
def isVis (sc : Scope) (x : Str) : Bool := sc.names.lookup x == some .local || sc.names.lookup x == some .cell || sc.names.lookup x == some .free
def isGl (sc : Scope) (x : Str) : Bool := sc.names.lookup x == some .globalImplicit
def okN (x : Str) : Bool := !(x == ("__debug__" : Str)) && !(x == ("__classdict__" : Str)) && !(x == ("__name__" : Str))
def noStar : Expr → Bool
  | .Starred .. => false
  | _ => true
def notSet : Expr → Bool
  | .Set .. => false
  | _ => true
def notSl : Expr → Bool
  | .Slice .. => false
  | _ => true
def notComp : Expr → Bool
  | .ListComp .. => false
  | .SetComp .. => false
  | .DictComp .. => false
  | _ => true
def notTup : Expr → Bool
  | .Tuple .. => false
  | _ => true
def notCall0 : Expr → Bool
  | .Call _ [] _ _ => false
  | _ => true
/-! the check of a target: names with their places -/
mutual
def chkP (N : List Str) (sc : Scope) (fn : Str → Bool) : Pt → Expr → Bool
  | .nm i, x => match x with
    | .Name n _ => N[i]? == some n && isLC sc n && (fn n || isL sc n)
    | _ => false
  | .tp ps, x => match x with
    | .Tuple es _ _ => chkPs N sc fn ps es
    | _ => false
def chkPs (N : List Str) (sc : Scope) (fn : Str → Bool) : Pts → List Expr → Bool
  | .nil, xs => match xs with
    | [] => true
    | _ => false
  | .cons p r, xs => match xs with
    | x :: ys => noStar x && chkP N sc fn p x && chkPs N sc fn r ys
    | [] => false
end
def ownOf (N : List Str) (is : List Nat) : List (Str × Nat) := is.map fun i => (N.getD i ⟨#[]⟩, i)
def blkB (N : List Str) (sc scope : Scope) (is : List Nat) : Bool :=
  (scope.kind == .function) && scope.names.all (fun y => scope.names.lookup y.1 == some y.2) && is.all (fun i => decide (i < N.length))
    && scope.names.all (fun y => !(y.2 == .free) || sc.names.lookup y.1 == some .cell || sc.names.lookup y.1 == some .free)
    && scope.names.all (fun y => !(y.2 == .local || y.2 == .cell) || ((ownOf N is).map (·.1)).contains y.1 || !N.contains y.1)
def Bl.name : Bl → Str
  | .len => "len"
  | .abs => "abs"
  | .int => "int"
  | .max => "max"
  | .min => "min"
  | .sum => "sum"
  | .all => "all"
  | .any => "any"
  | .tuple => "tuple"
  | .repr => "repr"
/-- the built-in names that the module leaves as they are -/
def bltNames : List Str := ["len", "abs", "int", "max", "min", "sum", "all", "any", "tuple", "list", "isinstance", "bool", "str", "dict", "range", "enumerate", "sorted", "set", "zip", "repr"]
def Mt.noArg : Mt → Bool
  | .pop => true
  | .clear => true
  | _ => false
/-! a test that is the truth of its value, at all places -/
mutual
def tstE : E → Bool
  | .ife _ _ _ => false
  | .nt a => tstE a
  | .boo _ es => tstEs es
  | _ => true
def tstEs : Es → Bool
  | .nil => true
  | .cons e r => tstE e && tstEs r
end
structure Ck where
  N : List Str
  fs : Str → Bool
  cs : Str → Bool
  xs : Str → Option Str
mutual
def chkE (c : Ck) : E → Scope → Expr → Bool
  | .var i, sc, x => match x with
    | .Name n _ => c.N[i]? == some n && isVis sc n && okN n
    | _ => false
  | .con d, sc, x => match x with
    | .Constant k _ _ => conOk d k
    | _ => false
  | .glo n, sc, x => match x with
    | .Name m _ => m == n && isGl sc n && c.cs n && okN n
    | _ => false
  | .bin op a b, sc, x => match x with
    | .BinOp l o r _ => decide (op = o) && chkE c a sc l && chkE c b sc r
    | _ => false
  | .neg a, sc, x => match x with
    | .UnaryOp .USub y _ => chkE c a sc y
    | _ => false
  | .cmp op a b, sc, x => match x with
    | .Compare l [o] [r] _ => decide (op = o) && notSet r && chkE c a sc l && chkE c b sc r
    | _ => false
  | .cmp2 op op' a b d, sc, x => match x with
    | .Compare l [o, o'] [m, r] _ => decide (op = o) && decide (op' = o') && notSet r && chkE c a sc l && chkE c b sc m && chkE c d sc r
    | _ => false
  | .boo k es, sc, x => match x with
    | .BoolOp o xs _ => decide (o = (if k then .And else .Or)) && chkB c es sc xs
    | _ => false
  | .nt a, sc, x => match x with
    | .UnaryOp .Not y _ => chkE c a sc y
    | _ => false
  | .ife d a b, sc, x => match x with
    | .IfExp t y z _ => tstE d && chkE c d sc t && chkE c a sc y && chkE c b sc z
    | _ => false
  | .tup es, sc, x => match x with
    | .Tuple xs _ _ => chkEs c es sc xs
    | _ => false
  | .lst _ es, sc, x => match x with
    | .List xs _ => chkEs c es sc xs
    | _ => false
  | .ix a b, sc, x => match x with
    | .Subscript y z _ => notSl z && chkE c a sc y && chkE c b sc z
    | _ => false
  | .sl _ a lo hi, sc, x => match x with
    | .Subscript y (.Slice l h none _) _ => chkE c a sc y && chkO c lo sc l && chkO c hi sc h
    | _ => false
  | .call f es, sc, x => match x with
    | .Call (.Name g _) (y :: ys) [] _ => g == f && isGl sc f && c.fs f && okN f && chkEs c es sc (y :: ys)
    | _ => false
  | .blt f es, sc, x => match x with
    | .Call (.Name g _) (y :: ys) [] _ => g == f.name && isGl sc f.name && chkEs c es sc (y :: ys)
    | _ => false
  | .lis _ a, sc, x => match x with
    | .Call (.Name g _) [y] [] _ => g == ("list" : Str) && isGl sc "list" && noStar y && chkE c a sc y
    | _ => false
  | .isi a k, sc, x => match x with
    | .Call (.Name g _) [y, .Name t _] [] _ => g == ("isinstance" : Str) && isGl sc "isinstance" && t == Str.ofString k.name && isGl sc (Str.ofString k.name) && noStar y && chkE c a sc y
    | _ => false
  | .mth k o es, sc, x => match x with
    | .Call (.Attribute y n ap) xs [] cp => n == k.name && notCall0 y && (ap.endLine == cp.line) && decide (xs.length < 30) && (k.noArg == xs.isEmpty) && chkE c o sc y && chkEs c es sc xs
    | _ => false
  | .lc _ p it t e, sc, x => match x with
    | .ListComp y [⟨tg, iter, ifs, 0⟩] scope _ => blkB c.N sc scope p.slots && notSet iter && chkI c it sc iter
        && chkP c.N (relS scope sc) (fun n => scope.names.lookup n == some .cell) p tg && chkT c t (relS scope sc) ifs && chkE c e (relS scope sc) y
    | _ => false
  | .dnil, sc, x => match x with
    | .Dict [] [] _ => true
    | _ => false
def chkEs (c : Ck) : Es → Scope → List Expr → Bool
  | .nil, sc, xs => match xs with
    | [] => true
    | _ => false
  | .cons e r, sc, xs => match xs with
    | x :: ys => noStar x && chkE c e sc x && chkEs c r sc ys
    | [] => false
def chkB (c : Ck) : Es → Scope → List Expr → Bool
  | .nil, sc, xs => false
  | .cons e r, sc, xs => match xs with
    | x :: ys => chkE c e sc x && (match r, ys with
      | .nil, [] => true
      | .nil, _ => false
      | .cons _ _, _ => chkB c r sc ys)
    | [] => false
def chkO (c : Ck) : Eo → Scope → Option Expr → Bool
  | .no, sc, x => x.isNone
  | .yes e, sc, x => match x with
    | some y => chkE c e sc y
    | none => false
def chkT (c : Ck) : Eo → Scope → List Expr → Bool
  | .no, sc, xs => xs.isEmpty
  | .yes e, sc, xs => match xs with
    | [y] => tstE e && chkE c e sc y
    | _ => false
def chkI (c : Ck) : Itr → Scope → Expr → Bool
  | .seq e, sc, x => chkE c e sc x
  | .rng es, sc, x => match x with
    | .Call (.Name g _) xs [] _ => g == ("range" : Str) && isGl sc "range" && (xs.length == 1 || xs.length == 2) && chkEs c es sc xs
    | _ => false
  | .enm e, sc, x => false
end
/-- name = e: may the store be exchanged -/
def swapB (sc : Scope) (n : Str) (py : Pos) : Expr → Bool
  | .ListComp _ _ s p => isL sc n && py.line == p.line && !(s.names.any fun (m, k) => m == n && (k == .local || k == .cell))
  | _ => false
def isLcx : Expr → Bool
  | .ListComp .. => true
  | _ => false
def isLce : E → Bool
  | .lc .. => true
  | _ => false
def parB (sc : Scope) (ns : List Str) (ls : List Nat) (vs : List Expr) : Bool :=
  ns.all (isL sc) && decide ns.Nodup && ls.all (· == ls.headD 0) && vs.all noStar && !(vs.all (foldedForSure 8)) && !(vs.all (constantsAlone 8))
mutual
def chkS (c : Ck) (sc : Scope) : S → Stmt → Bool
  | .asg p e, s => match s with
    | .Assign [t] v _ => match p with
      | .nm i => match t with
        | .Name n py => c.N[i]? == some n && isLC sc n && chkE c e sc v && (notComp v || (isLce e && isLcx v))
        | _ => false
      | .tp ps => match t with
        | .Tuple es _ _ => notTup v && chkPs c.N sc (fun _ => true) ps es && chkE c e sc v
        | _ => false
    | _ => false
  | .par is es, s => match s with
    | .Assign [.Tuple [.Name x px, .Name y py] _ _] (.Tuple vs _ _) _ => match is with
      | [i, j] => c.N[i]? == some x && c.N[j]? == some y && parB sc [x, y] [px.line, py.line] vs && vs.length == 2 && chkEs c es sc vs
      | _ => false
    | .Assign [.Tuple [.Name x px, .Name y py, .Name z pz] _ _] (.Tuple vs _ _) _ => match is with
      | [i, j, k] => c.N[i]? == some x && c.N[j]? == some y && c.N[k]? == some z && parB sc [x, y, z] [px.line, py.line, pz.line] vs && vs.length == 3 && chkEs c es sc vs
      | _ => false
    | _ => false
  | .put o i v, s => match s with
    | .Assign [.Subscript y z _] x _ => notSl z && chkE c v sc x && chkE c o sc y && chkE c i sc z
    | _ => false
  | .aug op i e, s => match s with
    | .AugAssign (.Name n _) o v _ => decide (op = o) && (decide (op = .Add) || decide (op = .Sub)) && c.N[i]? == some n && isLC sc n && chkE c e sc v
    | _ => false
  | .exp e, s => match s with
    | .Expr v _ => notComp v && chkE c e sc v
    | _ => false
  | .ret e, s => match s with
    | .Return (some v) _ => chkE c e sc v
    | _ => false
  | .retN, s => match s with
    | .Return none _ => true
    | _ => false
  | .ifs t a b, s => match s with
    | .If x ys zs _ => tstE t && chkE c t sc x && chkSs c sc a ys && chkSs c sc b zs
    | _ => false
  | .whl t b, s => match s with
    | .While x ys [] _ => tstE t && chkE c t sc x && chkSs c sc b ys
    | _ => false
  | .for p it b, s => match s with
    | .For tg iter ys [] _ => notSet iter && chkI c it sc iter && chkP c.N sc (fun _ => true) p tg && chkSs c sc b ys
    | _ => false
  | .pas, s => match s with
    | .Pass _ => true
    | .Expr (.Constant (.str _) _ _) _ => true
    | _ => false
  | .brk, s => match s with
    | .Break _ => true
    | _ => false
  | .cnt, s => match s with
    | .Continue _ => true
    | _ => false
  | .stop, _ => true
  | .rse cls fld e, s => match s with
    | .Raise (some (.Call (.Name g _) [y] [] _)) none _ => g == cls && isGl sc cls && okN cls && c.xs cls == some fld && noStar y && chkE c e sc y
    | _ => false
  | .tri e cls fld i, s => match s with
    | .Try [.Return (some y) _] [.ExceptHandler (some (.Name g _)) (some n) [.Return (some (.Attribute (.Name n2 _) fl _)) _] _] [] [] _ =>
      g == cls && isGl sc cls && okN cls && c.xs cls == some fld && c.N[i]? == some n && n2 == n && isL sc n && okN n && fl == fld && chkE c e sc y
    | _ => false
def chkSs (c : Ck) (sc : Scope) : Ss → List Stmt → Bool
  | .nil, ss => match ss with
    | [] => true
    | _ => false
  | .cons s r, ss => match ss with
    | x :: ys => chkS c sc s x && chkSs c sc r ys
    | [] => false
end
end Mi

/-! Mi: what is checked keeps its meaning: expressions. -/
namespace Mi
open PySem PySem.Spec PyProof.Rows L2

/-- the module's facts -/
structure Md (P : Program) (w : World) (K : Frg) (mg : Str → Option Value) (base : Heap) (ca : Str → Option Addr) (gc : Str → Option PD) (cf : Str → List D → Hd → Res D) (A : Around) (fs cs : Str → Bool) (xs : Str → Option Str) : Prop where
  fn : ∀ f, fs f = true → ∃ k n a fd ps, FnG P w K mg base k a fd ps (spD K ca n (cf f)) ∧ Room k A ∧ mg f = some (.ref a) ∧ PySem.W.keepIn K (.ref a) = true ∧ Binds K fd ps [] ∧ ∀ ds h, ds.length ≠ n → cf f ds h = .bad
  cn : ∀ x, cs x = true → (gc x).isSome = true
  cv : ∀ x d, gc x = some d → ∃ u v, mg x = some u ∧ RelV v u ∧ ∀ r H, RP K r H v d
  bl : ∀ x ∈ bltNames, mg x = none
  xc : ∀ c f, xs c = some f → Room 2 A ∧ ∃ C B newId initId bm fI fd sv xv, ca c = some C ∧ mg c = some (.ref C) ∧ OxC K C B newId initId bm ∧ PySem.W.findIn K (.ref C) "__init__" = some (some (.ref fI)) ∧ PySem.W.typeIn K (.ref fI) = some (.type "function") ∧
    FnOk P w K mg base (L2.CX P w) 1 fI fd [sv, xv] (spI C f) ∧ Binds K fd [sv, xv] [] ∧ XfC K C ∧ PySem.W.findIn K (.ref C) f = some none ∧ PySem.W.exmOne K (.ref C) (.ref C) = some true
structure Cxt (ca : Str → Option Addr) (gc : Str → Option PD) (cf : Str → List D → Hd → Res D) (c : Ck) (sc : Scope) (W : WX) (X : Cx) : Prop where
  hN : X.N = c.N
  nd : c.N.Nodup
  hs : X.env.scope = sc
  kd : sc.kind = .function
  calm : X.calm = true
  hu : X.A.units + 65 < cLine
  gd : X.A.guards = some []
  tk : Takes X W
  md : Md X.prog X.w X.K X.mg X.base ca gc cf X.A c.fs c.cs c.xs
section
variable {X : Cx} {ca : Str → Option Addr} {gc : Str → Option PD} {cf : Str → List D → Hd → Res D} {c : Ck} {sc : Scope} {W : WX}
theorem pe_eq {x : Expr} {f g : Loc → Hd → Res D} (h : PE X x (tE X.K ca W f)) (e : ∀ l h, g l h = f l h) : PE X x (tE X.K ca W g) := by
  have z : g = f := funext fun l => funext (e l)
  rw [z]
  exact h
theorem pt_eq {x : Expr} {f g : Loc → Hd → Res Bool} (h : PT X x (tT X.K ca W f)) (e : ∀ l h, g l h = f l h) : PT X x (tT X.K ca W g) := by
  have z : g = f := funext fun l => funext (e l)
  rw [z]
  exact h
theorem pw_eq {x : Expr} {f g : Loc → Hd → Res Bool} (h : PW X x (tT X.K ca W f)) (e : ∀ l h, g l h = f l h) : PW X x (tT X.K ca W g) := by
  have z : g = f := funext fun l => funext (e l)
  rw [z]
  exact h
theorem pa_eq {x : List Expr} {f g : Loc → Hd → Res (List D)} (h : PA X x (tA X.K ca W f)) (e : ∀ l h, g l h = f l h) : PA X x (tA X.K ca W g) := by
  have z : g = f := funext fun l => funext (e l)
  rw [z]
  exact h
theorem po_eq {x : Option Expr} {f g : Loc → Hd → Res (Option Int)} (h : PO X x (tO X.K ca W f)) (e : ∀ l h, g l h = f l h) : PO X x (tO X.K ca W g) := by
  have z : g = f := funext fun l => funext (e l)
  rw [z]
  exact h
theorem pi_eq {tg x : Expr} {f g : Loc → Hd → Res Walk} (h : PI X tg x (tI X.K ca W f)) (e : ∀ l h, g l h = f l h) : PI X tg x (tI X.K ca W g) := by
  have z : g = f := funext fun l => funext (e l)
  rw [z]
  exact h
theorem star_ne {x : Expr} (h : noStar x = true) : ∀ y p, x ≠ .Starred y p := fun y p e => by rw [e] at h; cases h
theorem okn {x : Str} (h : okN x = true) : (x == ("__debug__" : Str)) = false ∧ (x == ("__classdict__" : Str)) = false ∧ x ≠ "__name__" := by
  simp only [okN, Bool.and_eq_true, Bool.not_eq_true'] at h
  exact ⟨h.1.1, h.1.2, fun e => by rw [e] at h; simp at h⟩
theorem vis_of {x : Str} (C : Cxt ca gc cf c sc W X) (h : isVis sc x = true) : Vis X.env.scope x := by
  simp only [isVis, Bool.or_eq_true, beq_iff_eq] at h
  rw [C.hs]
  rcases h with (h | h) | h
  · exact .inl h
  · exact .inr (.inl h)
  · exact .inr (.inr h)
theorem gl_of {x : Str} (C : Cxt ca gc cf c sc W X) (h : isGl sc x = true) : Gl X x := by
  simp only [isGl, beq_iff_eq] at h
  show X.env.scope.names.lookup x = _
  rw [C.hs]
  exact h
theorem lc_of {x : Str} (C : Cxt ca gc cf c sc W X) (h : isLC sc x = true) : L2.Loc X.env.scope x := by
  simp only [isLC, Bool.or_eq_true, beq_iff_eq] at h
  rw [C.hs]
  exact h
theorem l_of {x : Str} (C : Cxt ca gc cf c sc W X) (h : isL sc x = true) : X.env.scope.names.lookup x = some .local := by
  simp only [isL, beq_iff_eq] at h
  rw [C.hs]
  exact h
theorem marks_of {op : CmpOp} {x : Expr} (h : notSet x = true) : behindInMarks op x = false := by cases x <;> first | rfl | cases h
theorem fold_of {x : Expr} (h : notSet x = true) (env : Env) : ∀ v, foldedSetIterable x env v = pure v := by
  intro v
  cases x <;> first | rfl | cases h
theorem pix_of {x : Expr} (h : notSl x = true) : PlainIx x := by
  intro o i
  cases x <;> first | rfl | cases h
theorem base_of {o : Expr} {n : Str} {env : Env} (h : notCall0 o = true) : attributeBase o n env (eval o env) = eval o env := by
  unfold attributeBase
  cases o with
  | Call f as ks p => cases as with
    | nil => cases h
    | cons a as => cases f <;> rfl
  | _ => rfl
theorem chkEs_star {es : Es} : ∀ {xs : List Expr}, chkEs c es sc xs = true → ∀ y ∈ xs, ∀ x p, y ≠ .Starred x p := by
  intro xs h y hy
  induction xs generalizing es with
  | nil => cases hy
  | cons x xs ih =>
    cases es with
    | nil => simp [chkEs] at h
    | cons e r =>
      simp only [chkEs, Bool.and_eq_true] at h
      rcases List.mem_cons.mp hy with rfl | hy
      · exact star_ne h.1.1
      · exact ih h.2 hy
theorem evEs_len {es : Es} : ∀ {xs : List Expr} {l : Loc} {h h1 : Hd} {ds : List D}, chkEs c es sc xs = true → evEs cf gc es l h = .ok ds h1 → ds.length = xs.length := by
  intro xs
  induction xs generalizing es with
  | nil =>
    intro l h h1 ds hc he
    cases es with
    | nil => rw [evEs] at he; cases he; rfl
    | cons e r => simp [chkEs] at hc
  | cons x xs ih =>
    intro l h h1 ds hc he
    cases es with
    | nil => simp [chkEs] at hc
    | cons e r =>
      simp only [chkEs, Bool.and_eq_true] at hc
      rw [evEs] at he
      cases h2 : evE cf gc e l h with
      | bad => rw [h2] at he; cases he
      | exc z h3 => rw [h2] at he; cases he
      | ok d h3 =>
        rw [h2] at he
        simp only [Res.bind] at he
        cases h4 : evEs cf gc r l h3 with
        | bad => rw [h4] at he; cases he
        | exc z h5 => rw [h4] at he; cases he
        | ok dr h5 =>
          rw [h4] at he
          cases he
          simp [ih hc.2 h4]
theorem own_map (N : List Str) (is : List Nat) : (ownOf N is).map (·.2) = is := by
  unfold ownOf
  rw [List.map_map]
  exact List.map_id is
theorem blk_of {scope : Scope} {is : List Nat} (h : blkB c.N sc scope is = true) : BlkOk c.N sc scope (ownOf c.N is) := by
  simp only [blkB, Bool.and_eq_true, List.all_eq_true, beq_iff_eq, decide_eq_true_eq] at h
  obtain ⟨⟨⟨⟨h1, h2⟩, h3⟩, h4⟩, h5⟩ := h
  refine ⟨h1, h2, fun p hp => ?_, fun y hy e => ?_, fun y hy e => ?_⟩
  · obtain ⟨i, hi, rfl⟩ := List.mem_map.mp hp
    have := h3 i hi
    simp [List.getD, List.getElem?_eq_getElem this]
  · have := h4 y hy
    rw [e] at this
    simpa using this
  · have := h5 y hy
    simp only [Bool.or_eq_true, Bool.not_eq_true', beq_iff_eq] at this
    rcases this with (z | z) | z
    · rcases e with e | e <;> rw [e] at z <;> simp at z
    · exact .inl (by simpa using z)
    · exact .inr (by simpa using z)
theorem Cxt.blk (C : Cxt ca gc cf c sc W X) {scope : Scope} (hk : scope.kind = .function) (s : Shared) (H : Hp) (D : Addr) (cl : List (Str × Addr)) (fp : List Addr) : Cxt ca gc cf c (relS scope sc) W0 (X.blk s H scope (compEnvC scope cl D X.env) fp) :=
  ⟨C.hN, C.nd, by rw [← C.hs]; rfl, hk, C.calm, C.hu, C.gd, takes0, C.md⟩
/-! ### targets -/
mutual
theorem sndP (C : Cxt ca gc cf c sc W X) {fn : Str → Bool} (hf : X.fn = fn) : ∀ (p : Pt) (x : Expr), chkP c.N sc fn p x = true → PG X x (gP X.K p)
  | .nm i, x, h => by
    unfold chkP at h
    split at h
    · rename_i n pos
      simp only [Bool.and_eq_true, beq_iff_eq, Bool.or_eq_true] at h
      refine snd_nm (by rw [C.hN]; exact C.nd) (by rw [C.hN]; exact h.1.1) (lc_of C h.1.2) ?_
      rw [hf]
      exact h.2.imp id (l_of C)
    · cases h
  | .tp ps, x, h => by
    unfold chkP at h
    split at h
    · rename_i es k pos
      obtain ⟨h1, h2, h3⟩ := sndPs C hf ps es h
      exact snd_tp C.calm h1 (h2 X.env) (h3 X.env) fun ds l l' hb => bindPs_len ps ds l l' hb
    · cases h
theorem sndPs (C : Cxt ca gc cf c sc W X) {fn : Str → Bool} (hf : X.fn = fn) : ∀ (p : Pts) (xs : List Expr), chkPs c.N sc fn p xs = true → PGs X xs (gPs X.K p) ∧ (∀ env, (assignEach xs env).length = p.len) ∧ (∀ env, (assignEach xs env).findIdx? (·.1) = none)
  | .nil, xs, h => by
    cases xs with
    | nil => exact ⟨snd_ps0, fun _ => rfl, fun _ => rfl⟩
    | cons y ys => simp [chkPs] at h
  | .cons p r, xs, h => by
    cases xs with
    | nil => simp [chkPs] at h
    | cons x ys =>
      simp only [chkPs, Bool.and_eq_true] at h
      obtain ⟨⟨h1, h2⟩, h3⟩ := h
      obtain ⟨g1, g2, g3⟩ := sndPs C hf r ys h3
      have e : ∀ env, assignEach (x :: ys) env = (false, assign x env) :: assignEach ys env := fun env => by cases x <;> first | rfl | cases h1
      refine ⟨snd_ps (sndP C hf p x h2) g1 (by rw [e]; rfl), fun env => ?_, fun env => ?_⟩
      · rw [e]
        simp [Pts.len, g2 env]
      · rw [e, List.findIdx?_cons]
        simp [g3 env]
end
/-! ### built-in calls, methods -/
theorem snd_blts {f : Bl} {p pos : Pos} {e : Expr} {es : List Expr} {fs : Loc → Hd → Res (List D)} (C : Cxt ca gc cf c sc W X) (hg : Gl X f.name) (ha : PA X (e :: es) (tA X.K ca W fs)) (hst : ∀ y ∈ e :: es, ∀ x p, y ≠ .Starred x p) :
    PE X (.Call (.Name f.name p) (e :: es) [] pos) (tE X.K ca W fun l h => (fs l h).bind fun ds h1 => match rdsOf h1 ds with
      | some ps => ofO h1 (f.fn ps)
      | none => .bad) := by
  cases f
  · exact snd_blt len_ok hg (C.md.bl _ (by decide +kernel)) rfl ha (by decide +kernel) (by decide +kernel) hst
  · exact snd_blt abs_ok hg (C.md.bl _ (by decide +kernel)) rfl ha (by decide +kernel) (by decide +kernel) hst
  · exact snd_bltTy int_ok hg (C.md.bl _ (by decide +kernel)) rfl ha (by decide +kernel) (by decide +kernel) hst
  · exact snd_blt (max_ok C.calm) hg (C.md.bl _ (by decide +kernel)) rfl ha (by decide +kernel) (by decide +kernel) hst
  · exact snd_blt (min_ok C.calm) hg (C.md.bl _ (by decide +kernel)) rfl ha (by decide +kernel) (by decide +kernel) hst
  · exact snd_blt (sum_ok C.calm) hg (C.md.bl _ (by decide +kernel)) rfl ha (by decide +kernel) (by decide +kernel) hst
  · exact snd_blt (all_ok C.calm) hg (C.md.bl _ (by decide +kernel)) rfl ha (by decide +kernel) (by decide +kernel) hst
  · exact snd_blt (any_ok C.calm) hg (C.md.bl _ (by decide +kernel)) rfl ha (by decide +kernel) (by decide +kernel) hst
  · exact snd_bltTy tuple_ok hg (C.md.bl _ (by decide +kernel)) rfl ha (by decide +kernel) (by decide +kernel) hst
  · exact snd_blt (repr_ok C.hu C.gd) hg (C.md.bl _ (by decide +kernel)) rfl ha (by decide +kernel) (by decide +kernel) hst
end
end Mi

/-! Mi: what is checked keeps its meaning: expressions, the theorem. -/
namespace Mi
open PySem PySem.Spec PyProof.Rows L2
section
variable {X : Cx} {ca : Str → Option Addr} {gc : Str → Option PD} {cf : Str → List D → Hd → Res D} {c : Ck} {sc : Scope} {W : WX}
theorem snd_mths {k : Mt} {o e : Expr} {es : List Expr} {fo : Loc → Hd → Res D} {fs : Loc → Hd → Res (List D)} {apos cpos : Pos} (hk : k.noArg = false) (ho : PE X o (tE X.K ca W fo)) (ha : PA X (e :: es) (tA X.K ca W fs)) (hb : notCall0 o = true) (hline : (apos.endLine == cpos.line) = true) (hst : ∀ y ∈ e :: es, ∀ x p, y ≠ .Starred x p) (hlen : (e :: es).length < 30) :
    PE X (.Call (.Attribute o k.name apos) (e :: es) [] cpos) (tE X.K ca W fun l h => (fo l h).bind fun x h1 => if isLst h1 x then (fs l h1).bind fun ds h2 => mthRun k x ds h2 else .bad) := by
  cases k
  · exact snd_mth (name := "append") PySem.F.slot_list_append PySem.F.type_list_append mt_append (fun _ _ _ _ _ => rAppend_of) ho ha (base_of hb) hline hst hlen
  · exact snd_mth (name := "extend") PySem.F.slot_list_extend PySem.F.type_list_extend mt_extendB (fun _ _ _ _ _ => rExtend_of) ho ha (base_of hb) hline hst hlen
  · cases hk
  · exact snd_mth (name := "pop") PySem.F.slot_list_pop PySem.F.type_list_pop mt_popAt (fun _ _ _ _ _ => rPopAt_of) ho ha (base_of hb) hline hst hlen
  · cases hk
theorem snd_mths0 {k : Mt} {o : Expr} {fo : Loc → Hd → Res D} {apos cpos : Pos} (hk : k.noArg = true) (ho : PE X o (tE X.K ca W fo)) (hb : notCall0 o = true) (hline : (apos.endLine == cpos.line) = true) :
    PE X (.Call (.Attribute o k.name apos) [] [] cpos) (tE X.K ca W fun l h => (fo l h).bind fun x h1 => if isLst h1 x then (Res.ok [] h1).bind fun ds h2 => mthRun k x ds h2 else .bad) := by
  cases k
  · cases hk
  · cases hk
  · exact snd_mth0 (name := "pop") PySem.F.slot_list_pop PySem.F.type_list_pop mt_pop (fun _ _ _ _ _ => rPop_of) ho (base_of hb) hline
  · cases hk
  · exact snd_mth0 (name := "clear") PySem.F.slot_list_clear PySem.F.type_list_clear mt_clear (fun _ _ _ _ _ => rClear_of) ho (base_of hb) hline
theorem bind_bind {α β γ : Type} (x : Res α) (f : α → Hd → Res β) (g : β → Hd → Res γ) : (x.bind f).bind g = x.bind fun a h => (f a h).bind g := by cases x <;> rfl
theorem truD_bool (h : Hd) (b : Bool) : truD h (.dat (.bool b)) = .ok b h := rfl
theorem ok_bind {α β : Type} (a : α) (h : Hd) (g : α → Hd → Res β) : (Res.ok a h).bind g = g a h := rfl
/-! ### the theorem -/
/-- a plain test -/
theorem of_test {x : Expr} {e : E} (h : PE X x (tE X.K ca W (evE cf gc e))) (he : ∀ whole, isTrue x X.env whole = (do let v ← whole; standAt x.pos; holding [v] (truthy v))) : PE X x (tE X.K ca W (evE cf gc e)) ∧ (tstE e = true → PT X x (tT X.K ca W (evT cf gc e))) :=
  ⟨h, fun _ => snd_test h he⟩
def booOp (k : Bool) : BoolOp := if k then .And else .Or
theorem evB_one (k : Bool) (e : E) (l : Loc) (h : Hd) : evB cf gc k (.cons e .nil) l h = evE cf gc e l h := by rw [evB]
theorem evB_two (k : Bool) (e e2 : E) (r : Es) (l : Loc) (h : Hd) : evB cf gc k (.cons e (.cons e2 r)) l h = (evE cf gc e l h).bind fun x h1 => (truD h1 x).bind fun b h2 => if b = k then evB cf gc k (.cons e2 r) l h2 else .ok x h2 := by rw [evB]
theorem truD_inv {h h2 : Hd} {x : D} {b : Bool} (e : truD h x = .ok b h2) : h2 = h := by
  unfold truD at e
  split at e <;> cases e
  rfl
theorem evB_twoT (k : Bool) (e e2 : E) (r : Es) (l : Loc) (h : Hd) : (evB cf gc k (.cons e (.cons e2 r)) l h).bind (fun x h1 => truD h1 x) = (evT cf gc e l h).bind fun b h1 => if b = k then (evB cf gc k (.cons e2 r) l h1).bind (fun x h2 => truD h2 x) else .ok b h1 := by
  rw [evB_two, evT, bind_bind, bind_bind]
  cases evE cf gc e l h with
  | bad => rfl
  | exc x h1 => rfl
  | ok x h1 =>
    simp only [ok_bind]
    cases ht : truD h1 x with
    | bad => rfl
    | exc z h2 => rfl
    | ok b h2 =>
      have := truD_inv ht
      subst this
      simp only [ok_bind]
      by_cases hb : b = k
      · rw [if_pos hb, if_pos hb]
      · rw [if_neg hb, if_neg hb, ok_bind, ht]
mutual
theorem sndE : ∀ (e : E) {X : Cx} {c : Ck} {sc : Scope} {W : WX} (C : Cxt ca gc cf c sc W X) (x : Expr), chkE c e sc x = true → PE X x (tE X.K ca W (evE cf gc e)) ∧ (tstE e = true → PT X x (tT X.K ca W (evT cf gc e)))
  | .var i, X, c, sc, W, C, x, h => by
    unfold chkE at h
    split at h
    · rename_i n pos
      simp only [Bool.and_eq_true, beq_iff_eq] at h
      obtain ⟨o1, o2, o3⟩ := okn h.2
      refine of_test (pe_eq (snd_var (by rw [C.hN]; exact h.1.1) (vis_of C h.1.2) o1 o2) fun l h => ?_) fun _ => rfl
      (rw [evE]; try rfl)
    · cases h
  | .con d, X, c, sc, W, C, x, h => by
    unfold chkE at h
    split at h
    · refine of_test (pe_eq (snd_con h) fun l h => ?_) fun _ => rfl
      (rw [evE]; try rfl)
    · cases h
  | .glo n, X, c, sc, W, C, x, h => by
    unfold chkE at h
    split at h
    · rename_i m pos
      simp only [Bool.and_eq_true, beq_iff_eq] at h
      obtain ⟨⟨⟨rfl, h2⟩, h3⟩, h4⟩ := h
      refine of_test (pe_eq (snd_glo (gl_of C h2) (C.md.cv m) (C.md.cn m h3) (okn h4).1) fun l h => ?_) fun _ => rfl
      (rw [evE]; try rfl)
    · cases h
  | .bin op a b, X, c, sc, W, C, x, h => by
    unfold chkE at h
    split at h
    · rename_i y o z pos
      simp only [Bool.and_eq_true, decide_eq_true_eq] at h
      obtain ⟨⟨rfl, h2⟩, h3⟩ := h
      refine of_test (pe_eq (snd_bin (sndE a C y h2).1 (sndE b C z h3).1) fun l h => ?_) fun _ => rfl
      (rw [evE]; try rfl)
    · cases h
  | .neg a, X, c, sc, W, C, x, h => by
    unfold chkE at h
    split at h
    · rename_i y pos
      refine of_test (pe_eq (snd_neg (sndE a C y h).1) fun l h => ?_) fun _ => rfl
      (rw [evE]; try rfl)
    · cases h
  | .cmp op a b, X, c, sc, W, C, x, h => by
    unfold chkE at h
    split at h
    · rename_i y o z pos
      simp only [Bool.and_eq_true, decide_eq_true_eq] at h
      obtain ⟨⟨⟨rfl, h1⟩, h2⟩, h3⟩ := h
      have ha := (sndE a C y h2).1
      have hb := (sndE b C z h3).1
      refine ⟨pe_eq (snd_cmp C.hu (marks_of h1) ha hb) fun l h => ?_, fun _ => pt_eq (snd_cmpT C.hu (marks_of h1) ha hb) fun l h => ?_⟩
      · (rw [evE]; try rfl)
      · (rw [evT, evE]; try rfl)
    · cases h
  | .cmp2 op op' a b d, X, c, sc, W, C, x, h => by
    unfold chkE at h
    split at h
    · rename_i y o o' m z pos
      simp only [Bool.and_eq_true, decide_eq_true_eq] at h
      obtain ⟨⟨⟨⟨⟨rfl, rfl⟩, h1⟩, h2⟩, h3⟩, h4⟩ := h
      have ha := (sndE a C y h2).1
      have hb := (sndE b C m h3).1
      have hd := (sndE d C z h4).1
      have hm : lastMarks [op, op'] [m, z] = false := marks_of h1
      refine ⟨pe_eq (snd_cmp2 C.hu hm ha hb hd) fun l h => ?_, fun _ => pt_eq (snd_cmp2T C.hu hm ha hb hd) fun l h => ?_⟩
      · (rw [evE]; try rfl)
      · (rw [evT, evE]; try rfl)
    · cases h
  | .boo k es, X, c, sc, W, C, x, h => by
    unfold chkE at h
    split at h
    · rename_i o xs pos
      simp only [Bool.and_eq_true, decide_eq_true_eq] at h
      obtain ⟨rfl, h2⟩ := h
      obtain ⟨h3, h4⟩ := sndB k es C xs h2 pos
      refine ⟨pe_eq h3 fun l h => ?_, fun ht => (pw_eq (h4 (by simpa [tstE] using ht)) fun l h => ?_).pt⟩
      · (rw [evE]; try rfl)
      · (rw [evT, evE]; try rfl)
    · cases h
  | .nt a, X, c, sc, W, C, x, h => by
    unfold chkE at h
    split at h
    · rename_i y pos
      obtain ⟨h1, h2⟩ := sndE a C y h
      refine ⟨pe_eq (snd_not h1) fun l h => ?_, fun ht => pt_eq (snd_notT (h2 (by simpa [tstE] using ht))) fun l h => ?_⟩
      · (rw [evE]; try rfl)
      · rw [evT, evE, bind_bind, evT, bind_bind]
        cases evE cf gc a l h with
        | bad => rfl
        | exc x h1 => rfl
        | ok x h1 =>
          simp only [ok_bind]
          cases truD h1 x <;> rfl
    · cases h
  | .ife d a b, X, c, sc, W, C, x, h => by
    unfold chkE at h
    split at h
    · rename_i t y z pos
      simp only [Bool.and_eq_true] at h
      obtain ⟨⟨⟨h1, h2⟩, h3⟩, h4⟩ := h
      refine ⟨pe_eq (snd_ife ((sndE d C t h2).2 h1) (sndE a C y h3).1 (sndE b C z h4).1) fun l h => ?_, fun ht => by simp [tstE] at ht⟩
      rw [evE, evT, bind_bind]
    · cases h
  | .tup es, X, c, sc, W, C, x, h => by
    unfold chkE at h
    split at h
    · rename_i xs k pos
      refine of_test (pe_eq (snd_tup (sndEs es C xs h)) fun l h => ?_) fun _ => rfl
      (rw [evE]; try rfl)
    · cases h
  | .lst m es, X, c, sc, W, C, x, h => by
    unfold chkE at h
    split at h
    · rename_i xs pos
      refine of_test (pe_eq (snd_lst (m := m) (sndEs es C xs h)) fun l h => ?_) fun _ => rfl
      (rw [evE]; try rfl)
    · cases h
  | .ix a b, X, c, sc, W, C, x, h => by
    unfold chkE at h
    split at h
    · rename_i y z pos
      simp only [Bool.and_eq_true] at h
      obtain ⟨⟨h1, h2⟩, h3⟩ := h
      have hu := C.hu
      refine of_test (pe_eq (snd_ix (by omega) (pix_of h1) (sndE a C y h2).1 (sndE b C z h3).1) fun l h => ?_) fun _ => rfl
      (rw [evE]; try rfl)
    · cases h
  | .sl m a lo hi, X, c, sc, W, C, x, h => by
    unfold chkE at h
    split at h
    · rename_i y lo' hi' p2 pos
      simp only [Bool.and_eq_true] at h
      obtain ⟨⟨h1, h2⟩, h3⟩ := h
      refine of_test (pe_eq (snd_sl (m := m) (sndE a C y h1).1 (sndO lo C lo' h2) (sndO hi C hi' h3)) fun l h => ?_) fun _ => rfl
      (rw [evE]; try rfl)
    · cases h
  | .call f es, X, c, sc, W, C, x, h => by
    unfold chkE at h
    split at h
    · rename_i g p y ys pos
      simp only [Bool.and_eq_true, beq_iff_eq] at h
      obtain ⟨⟨⟨⟨rfl, h1⟩, h2⟩, h3⟩, h4⟩ := h
      obtain ⟨k, n, a, fd, ps, F, hr, hm, hk, hb, hl⟩ := C.md.fn g h2
      refine of_test (pe_eq (snd_call F C.gd hr (gl_of C h1) hm hk hb C.tk hl (sndEs es C (y :: ys) h4) (okn h3).1 (chkEs_star h4)) fun l h => ?_) fun _ => rfl
      (rw [evE]; try rfl)
    · cases h
  | .blt f es, X, c, sc, W, C, x, h => by
    unfold chkE at h
    split at h
    · rename_i g p y ys pos
      simp only [Bool.and_eq_true, beq_iff_eq] at h
      obtain ⟨⟨rfl, h1⟩, h4⟩ := h
      refine of_test (pe_eq (snd_blts C (gl_of C h1) (sndEs es C (y :: ys) h4) (chkEs_star h4)) fun l h => ?_) fun _ => rfl
      (rw [evE]; try rfl)
    · cases h
  | .lis m a, X, c, sc, W, C, x, h => by
    unfold chkE at h
    split at h
    · rename_i g p y pos
      simp only [Bool.and_eq_true, beq_iff_eq] at h
      obtain ⟨⟨⟨rfl, h1⟩, h2⟩, h4⟩ := h
      refine of_test (pe_eq (snd_lis (m := m) (gl_of C h1) (C.md.bl _ (by decide +kernel)) rfl (sndE a C y h4).1 (by decide +kernel) (by decide +kernel) (star_ne h2)) fun l h => ?_) fun _ => rfl
      (rw [evE]; try rfl)
    · cases h
  | .isi a k, X, c, sc, W, C, x, h => by
    unfold chkE at h
    split at h
    · rename_i g p y t p2 pos
      simp only [Bool.and_eq_true, beq_iff_eq] at h
      obtain ⟨⟨⟨⟨⟨rfl, h1⟩, rfl⟩, h2⟩, h3⟩, h4⟩ := h
      have hy := (sndE a C y h4).1
      have hm : X.mg (Str.ofString k.name) = none := C.md.bl _ (by cases k <;> decide +kernel)
      have hv : bootBuiltins (Str.ofString k.name) = some (.type k.name) := by cases k <;> rfl
      refine of_test (pe_eq (snd_isi (cl := k) (gl_of C h1) (C.md.bl _ (by decide +kernel)) rfl (gl_of C h2) hm hv hy (by decide +kernel) (by decide +kernel) (by cases k <;> decide +kernel) (by cases k <;> decide +kernel) (star_ne h3)) fun l h => ?_) fun _ => rfl
      (rw [evE]; try rfl)
    · cases h
  | .mth k o es, X, c, sc, W, C, x, h => by
    unfold chkE at h
    split at h
    · rename_i y n ap xs cp
      simp only [Bool.and_eq_true, beq_iff_eq, decide_eq_true_eq] at h
      obtain ⟨⟨⟨⟨⟨⟨rfl, h1⟩, h2⟩, h3⟩, h4⟩, h5⟩, h6⟩ := h
      have ho := (sndE o C y h5).1
      cases xs with
      | nil =>
        cases es with
        | cons e r => simp [chkEs] at h6
        | nil =>
          refine of_test (pe_eq (snd_mths0 (k := k) (by simpa using h4) ho h1 (by simpa using h2)) fun l h => ?_) fun _ => rfl
          (rw [evE]; try rfl)
      | cons z zs =>
        refine of_test (pe_eq (snd_mths (k := k) (by simpa using h4) ho (sndEs es C (z :: zs) h6) h1 (by simpa using h2) (chkEs_star h6) h3) fun l h => ?_) fun _ => rfl
        (rw [evE]; try rfl)
    · cases h
  | .lc m p it t e, X, c, sc, W, C, x, h => by
    unfold chkE at h
    split at h
    · rename_i y tg iter ifs scope pos
      simp only [Bool.and_eq_true] at h
      obtain ⟨⟨⟨⟨⟨h1, h2⟩, h3⟩, h4⟩, h5⟩, h6⟩ := h
      have bo := blk_of h1
      refine of_test (pe_imp (pe_lc (own := ownOf c.N p.slots) (g := gP X.K p) (tt := tT X.K ca W0 (evC cf gc t)) (te := tE X.K ca W0 (evE cf gc e)) C.calm (by rw [C.hN]; exact C.nd) (sndI it C iter tg h3) (by rw [C.hN, C.hs]; exact bo)
        (fun s H D cl fp => sndP (C.blk bo.kind s H D cl fp) rfl p tg h4) (fun s H D cl fp => sndC t (C.blk bo.kind s H D cl fp) ifs h5) (fun s H D cl fp => (sndE e (C.blk bo.kind s H D cl fp) y h6).1) (fold_of h2 X.env)) fun σ H Q q => ?_) fun _ => rfl
      rw [own_map]
      have z : evE cf gc (.lc m p it t e) = fun l h => (evI cf gc it l h).bind fun w h1 => (lcRun p w (evC cf gc t) (evE cf gc e) l w.items [] h1).bind fun ds h2 => mkL m ds h2 := by
        funext l h
        (rw [evE]; try rfl)
      rw [z] at q
      exact lc_read q
    · cases h
  | .dnil, X, c, sc, W, C, x, h => by
    unfold chkE at h
    split at h
    · refine of_test (pe_imp pe_dnewK fun σ H Q ⟨r, l, h, rl, rh, g⟩ => ?_) fun _ => rfl
      intro p hp
      rw [evE] at g
      exact g r _ (.same rh.tr (same_new hp)) (rh.same (same_new hp)) _ (RP.dct (.inl upd_same) (rh.fresh hp) .nil)
    · cases h
theorem sndEs : ∀ (es : Es) {X : Cx} {c : Ck} {sc : Scope} {W : WX} (C : Cxt ca gc cf c sc W X) (xs : List Expr), chkEs c es sc xs = true → PA X xs (tA X.K ca W (evEs cf gc es))
  | .nil, X, c, sc, W, C, xs, h => by
    cases xs with
    | nil =>
      refine pa_eq snd_nil fun l h => ?_
      (rw [evEs]; try rfl)
    | cons x ys => simp [chkEs] at h
  | .cons e r, X, c, sc, W, C, xs, h => by
    cases xs with
    | nil => simp [chkEs] at h
    | cons x ys =>
      simp only [chkEs, Bool.and_eq_true] at h
      refine pa_eq (snd_cons (sndE e C x h.1.2).1 (sndEs r C ys h.2) (one_star (star_ne h.1.1))) fun l h => ?_
      (rw [evEs]; try rfl)
theorem sndB : ∀ (k : Bool) (es : Es) {X : Cx} {c : Ck} {sc : Scope} {W : WX} (C : Cxt ca gc cf c sc W X) (xs : List Expr), chkB c es sc xs = true → ∀ pos, PE X (.BoolOp (if k then .And else .Or) xs pos) (tE X.K ca W (evB cf gc k es)) ∧
    (tstEs es = true → PW X (.BoolOp (if k then .And else .Or) xs pos) (tT X.K ca W fun l h => (evB cf gc k es l h).bind fun x h1 => truD h1 x))
  | k, .nil, X, c, sc, W, C, xs, h => by simp [chkB] at h
  | k, .cons e r, X, c, sc, W, C, xs, h => by
    intro pos
    cases xs with
    | nil => simp [chkB] at h
    | cons x ys =>
      unfold chkB at h
      simp only [Bool.and_eq_true] at h
      obtain ⟨h1, h2⟩ := h
      obtain ⟨pe, pt⟩ := sndE e C x h1
      cases r with
      | nil =>
        cases ys with
        | cons y zs => cases h2
        | nil =>
          refine ⟨?_, fun ht => ?_⟩
          · cases k
            · exact pe_eq (pe_one pe) (evB_one _ e)
            · exact pe_eq (pe_one pe) (evB_one _ e)
          · have pt' := pt (by simpa [tstEs] using ht)
            cases k
            · exact pw_eq (pw_or1 pt') fun l h => by rw [evB_one, evT]
            · exact pw_eq (pw_and1 pt') fun l h => by rw [evB_one, evT]
      | cons e2 r2 =>
        cases ys with
        | nil => simp [chkB] at h2
        | cons y zs =>
          have h2 : chkB c (.cons e2 r2) sc (y :: zs) = true := h2
          obtain ⟨pe2, pw2⟩ := sndB k (.cons e2 r2) C (y :: zs) h2 pos
          refine ⟨?_, fun ht => ?_⟩
          · cases k
            · exact pe_eq (snd_orV pe pe2) (evB_two _ e e2 r2)
            · exact pe_eq (snd_andV pe pe2) (evB_two _ e e2 r2)
          · have ht' : tstE e = true ∧ tstEs (.cons e2 r2) = true := by
              rw [tstEs, Bool.and_eq_true] at ht
              exact ht
            cases k
            · refine pw_eq (snd_orT (pt ht'.1) (pw2 ht'.2)) fun l h => ?_
              rw [evB_twoT]
              congr 1
              funext b h1
              cases b <;> rfl
            · refine pw_eq (snd_andT (pt ht'.1) (pw2 ht'.2)) fun l h => ?_
              rw [evB_twoT]
              congr 1
              funext b h1
              cases b <;> rfl
theorem sndO : ∀ (o : Eo) {X : Cx} {c : Ck} {sc : Scope} {W : WX} (C : Cxt ca gc cf c sc W X) (x : Option Expr), chkO c o sc x = true → PO X x (tO X.K ca W (evO cf gc o))
  | .no, X, c, sc, W, C, x, h => by
    cases x with
    | some y => simp [chkO] at h
    | none =>
      refine po_eq snd_noPart fun l h => ?_
      (rw [evO]; try rfl)
  | .yes e, X, c, sc, W, C, x, h => by
    cases x with
    | none => simp [chkO] at h
    | some y =>
      have h : chkE c e sc y = true := by simpa [chkO] using h
      refine po_eq (snd_part (sndE e C y h).1) fun l h => ?_
      (rw [evO]; try rfl)
theorem sndC : ∀ (o : Eo) {X : Cx} {c : Ck} {sc : Scope} {W : WX} (C : Cxt ca gc cf c sc W X) (xs : List Expr), chkT c o sc xs = true → PTs X xs (tT X.K ca W (evC cf gc o))
  | .no, X, c, sc, W, C, xs, h => by
    cases xs with
    | cons x ys => simp [chkT] at h
    | nil => exact ⟨fun pins s σ H Q I w => pts_nil.run pins s σ H Q I (by
        obtain ⟨r, l, h, rl, rh, g⟩ := w
        rw [evC] at g
        exact g.ok rh)⟩
  | .yes e, X, c, sc, W, C, xs, h => by
    cases xs with
    | nil => simp [chkT] at h
    | cons x ys =>
      cases ys with
      | cons y zs => simp [chkT] at h
      | nil =>
        have h : tstE e = true ∧ chkE c e sc x = true := by simpa [chkT] using h
        refine pts_one (pt_eq ((sndE e C x h.2).2 h.1) fun l h => ?_)
        (rw [evC, evT]; try rfl)
theorem sndI : ∀ (it : Itr) {X : Cx} {c : Ck} {sc : Scope} {W : WX} (C : Cxt ca gc cf c sc W X) (x tg : Expr), chkI c it sc x = true → PI X tg x (tI X.K ca W (evI cf gc it))
  | .seq e, X, c, sc, W, C, x, tg, h => by
    have h : chkE c e sc x = true := by simpa [chkI] using h
    refine pi_eq (snd_seq (sndE e C x h).1) fun l h => ?_
    (rw [evI]; try rfl)
  | .rng es, X, c, sc, W, C, x, tg, h => by
    unfold chkI at h
    split at h
    · rename_i g p xs pos
      simp only [Bool.and_eq_true, beq_iff_eq, Bool.or_eq_true] at h
      obtain ⟨⟨⟨rfl, h1⟩, h2⟩, h3⟩ := h
      have pa := sndEs es C xs h3
      have st := chkEs_star h3
      rcases h2 with h2 | h2
      · match xs, h2, h3, pa, st with
        | [y], _, h3, pa, st =>
          refine pi_eq (snd_rng1 (gl_of C h1) (C.md.bl _ (by decide +kernel)) pa (st y List.mem_cons_self) fun l h ds h1 he => evEs_len h3 he) fun l h => ?_
          (rw [evI]; try rfl)
      · match xs, h2, h3, pa, st with
        | [y, z], _, h3, pa, st =>
          refine pi_eq (snd_rng2 (gl_of C h1) (C.md.bl _ (by decide +kernel)) pa (st y List.mem_cons_self) (st z (List.mem_cons_of_mem _ List.mem_cons_self)) fun l h ds h1 he => evEs_len h3 he) fun l h => ?_
          (rw [evI]; try rfl)
    · cases h
  | .enm e, X, c, sc, W, C, x, tg, h => by simp [chkI] at h
end
end
end Mi

/-! Mi: what is checked keeps its meaning: statements, defs. -/
namespace Mi
open PySem PySem.Spec PyProof.Rows L2
section
variable {X : Cx} {ca : Str → Option Addr} {gc : Str → Option PD} {cf : Str → List D → Hd → Res D} {c : Ck} {sc : Scope} {W : WX}
theorem ps_eq {x : Stmt} {f g : Loc → Hd → Out} (h : PS X x (tS X.K ca W f)) (e : ∀ l h, g l h = f l h) : PS X x (tS X.K ca W g) := by
  have z : g = f := funext fun l => funext (e l)
  rw [z]
  exact h
theorem pss_eq {x : List Stmt} {f g : Loc → Hd → Out} (h : PSs X x (tS X.K ca W f)) (e : ∀ l h, g l h = f l h) : PSs X x (tS X.K ca W g) := by
  have z : g = f := funext fun l => funext (e l)
  rw [z]
  exact h
theorem sw_no {v : Expr} {t : Option Expr} {n : Nat} {env : Env} (h : notComp v = true) : swapsWith v t n env = pure false := by
  cases v <;> first | rfl | cases h
theorem sw_lc {elt : Expr} {gs : List Comprehension} {s : Scope} {p py : Pos} {n : Str} {k : Nat} {env : Env} (hk : env.scope.kind = .function) (h : swapB env.scope n py (.ListComp elt gs s p) = false) : swapsWith (.ListComp elt gs s p) (some (.Name n py)) k env = pure false := by
  have hb : env.blockKind = .function := by unfold Env.blockKind; rw [hk]; rfl
  have h' : ((env.kindOf n == some .local) && py.line == p.line && !(s.names.any fun (m, k) => m == n && (k == .local || k == .cell))) = false := h
  unfold swapsWith
  simp only [hb, Expr.pos]
  rw [show ((ScopeKind.function == ScopeKind.function) && (env.kindOf n == some .local) && py.line == p.line && !(s.names.any fun (m, k) => m == n && (k == .local || k == .cell))) = false from by
    rw [show (ScopeKind.function == ScopeKind.function) = true from rfl, Bool.true_and]
    exact h']
theorem sw_sub {v o i : Expr} {tp : Pos} {n : Nat} {env : Env} : swapsWithSole [.Subscript o i tp] v n env = pure false := by
  cases v <;> rfl
theorem sw_tup {v : Expr} {es : List Expr} {k : Nat} {tp : Pos} {n : Nat} {env : Env} : swapsWithSole [.Tuple es k tp] v n env = pure false := by
  cases v <;> rfl
theorem st_sub {v o i : Expr} {tp : Pos} {env : Env} : swappedStores [.Subscript o i tp] v env = pure none := by
  cases v <;> rfl
theorem st_tup {v : Expr} {es : List Expr} {k : Nat} {tp : Pos} {env : Env} (h : notTup v = true) : swappedStores [.Tuple es k tp] v env = pure none := by
  cases v <;> first | rfl | cases h
theorem star_any {vs : List Expr} (h : vs.all noStar = true) : (vs.any fun | .Starred .. => true | _ => false) = false := by
  induction vs with
  | nil => rfl
  | cons v vs ih =>
    rw [List.all_cons, Bool.and_eq_true] at h
    rw [List.any_cons, ih h.2, Bool.or_false]
    cases v <;> first | rfl | (have := h.1; cases this)
theorem par_two {env : Env} {x y : Str} {px py pt pt2 : Pos} {kt k2 : Nat} {vs : List Expr} (hk : env.scope.kind = .function) (hl : vs.length = 2) (h : parB env.scope [x, y] [px.line, py.line] vs = true) :
    swappedStores [.Tuple [.Name x px, .Name y py] kt pt] (.Tuple vs k2 pt2) env = pure (some [x, y]) := by
  have hb : env.blockKind = .function := by unfold Env.blockKind; rw [hk]; rfl
  simp only [parB, Bool.and_eq_true, List.all_cons, List.all_nil, Bool.and_true, decide_eq_true_eq, Bool.not_eq_true', beq_iff_eq, List.headD_cons] at h
  obtain ⟨⟨⟨⟨⟨⟨h1, h2⟩, h3⟩, h4, h5⟩, h6⟩, h7⟩, h8⟩ := h
  have k1 : env.kindOf x = some .local := beq_iff_eq.mp h1
  have k2 : env.kindOf y = some .local := beq_iff_eq.mp h2
  have hne : x ≠ y := by simpa using h3
  unfold swappedStores
  simp only [hb, hl, star_any h6, h7, h8, k1, k2, List.filterMap_cons, List.filterMap_nil, Expr.pos, List.head?_cons, Option.map_some, Option.getD_some, h5, List.length_cons, List.length_nil]
  simp [hne, Ne.symm hne, List.eraseDups_cons, List.filter_cons]
  intro v hv hm
  have := List.all_eq_true.mp h6 v hv
  cases v <;> first | (cases this; done) | (cases hm; done)
theorem par_three {env : Env} {x y z : Str} {px py pz pt pt2 : Pos} {kt k2 : Nat} {vs : List Expr} (hk : env.scope.kind = .function) (hl : vs.length = 3) (h : parB env.scope [x, y, z] [px.line, py.line, pz.line] vs = true) :
    swappedStores [.Tuple [.Name x px, .Name y py, .Name z pz] kt pt] (.Tuple vs k2 pt2) env = pure (some [x, y, z]) := by
  have hb : env.blockKind = .function := by unfold Env.blockKind; rw [hk]; rfl
  simp only [parB, Bool.and_eq_true, List.all_cons, List.all_nil, Bool.and_true, decide_eq_true_eq, Bool.not_eq_true', beq_iff_eq, List.headD_cons] at h
  obtain ⟨⟨⟨⟨⟨⟨h1, h2, h2'⟩, h3⟩, h4, h5, h5'⟩, h6⟩, h7⟩, h8⟩ := h
  have k1 : env.kindOf x = some .local := beq_iff_eq.mp h1
  have k2 : env.kindOf y = some .local := beq_iff_eq.mp h2
  have k3 : env.kindOf z = some .local := beq_iff_eq.mp h2'
  have hne : (x ≠ y ∧ x ≠ z) ∧ y ≠ z := by simpa using h3
  unfold swappedStores
  simp only [hb, hl, star_any h6, h7, h8, k1, k2, k3, List.filterMap_cons, List.filterMap_nil, Expr.pos, List.head?_cons, Option.map_some, Option.getD_some, h5, h5', List.length_cons, List.length_nil]
  simp [hne.1.1, hne.1.2, hne.2, Ne.symm hne.1.1, Ne.symm hne.1.2, Ne.symm hne.2, List.eraseDups_cons, List.filter_cons]
  intro v hv hm
  have := List.all_eq_true.mp h6 v hv
  cases v <;> first | (cases this; done) | (cases hm; done)

/-! ### raise, try -/
theorem snd_rse {cls fld : Str} {C fI : Addr} {B newId initId : String} {bm : List Value} {fd : FuncData} {sv xv : Str} {a : Expr} {fa : Loc → Hd → Res D} {p pos pos2 : Pos} (hca : ca cls = some C) (T : OxC X.K C B newId initId bm) (iC : PySem.W.findIn X.K (.ref C) "__init__" = some (some (.ref fI)))
    (tI : PySem.W.typeIn X.K (.ref fI) = some (.type "function")) (F1 : FnOk X.prog X.w X.K X.mg X.base (L2.CX X.prog X.w) 1 fI fd [sv, xv] (spI C fld)) (hr : Room 2 X.A) (hb : Binds X.K fd [sv, xv] []) (hg : Gl X cls) (hm : X.mg cls = some (.ref C)) (hc : X.calm = true) (tk : Takes X W)
    (ha : PE X a (tE X.K ca W fa)) (hdb : (cls == ("__debug__" : Str)) = false) (hst : ∀ x p, a ≠ .Starred x p) :
    PS X (.Raise (some (.Call (.Name cls p) [a] [] pos)) none pos2) (tS X.K ca W fun l h => (fa l h).out l fun x h1 => match x with
      | .dat d => .exc ⟨cls, [(fld, d)]⟩ l h1
      | _ => .bad) := by
  refine ps_imp (ps_raise hc tk (pmkG T iC tI F1 hr hb hg hm (pa_cons ha pa_nil (one_star hst)) hdb (one_star hst))) fun D σ H ⟨r, l, h, rl, rh, g⟩ => ?_
  refine ⟨r, l, h, rl, rh, (Go.of_out rl g).imp fun x h1 r1 H1 e1 rh1 g1 v rv => ⟨v, rfl, fun d hd => ?_⟩⟩
  cases x with
  | dat q =>
    have e : Ext r1 H1 r1 (upd H1 d (.xd [(fld, v)])) := .same rh1.tr (same_new hd)
    exact g1 r1 _ σ _ _ e (rh1.same (same_new hd)) ((rl.ext e1).ext e) ⟨C, hca, rfl, .inr ⟨d, fld, v, q, rfl, rfl, rh1.fresh hd, upd_same, RP.sm rv (same_new hd)⟩⟩
  | ref n => exact False.elim g1
  | scr ns => exact False.elim g1
theorem snd_tri {cls fld n : Str} {C : Addr} {i : Nat} {a : Expr} {fa : Loc → Hd → Res D} {p p0 p2 p3 p4 p5 pos : Pos} (hca : ca cls = some C) (hm : X.mg cls = some (.ref C)) (T : XfC X.K C) (hno : PySem.W.findIn X.K (.ref C) fld = some none) (hx : PySem.W.exmOne X.K (.ref C) (.ref C) = some true)
    (hs : X.stack = X.env :: X.outer) (hf : X.env.frame = some X.env.locals) (hN : X.N.Nodup) (hi : X.N[i]? = some n) (hln : X.env.scope.names.lookup n = some .local) (hg : Gl X cls) (hdb : (cls == ("__debug__" : Str)) = false) (hd1 : (n == ("__debug__" : Str)) = false) (hd2 : (n == ("__classdict__" : Str)) = false) (tk : Takes X W)
    (ha : ∀ (W' : WX) (pn : List (Addr × Obj)) (xe : Value → Shared → Prop), Takes (X.tr pn xe) W' → PE (X.tr pn xe) a (tE X.K ca W' fa)) :
    PS X (.Try [.Return (some a) p0] [.ExceptHandler (some (.Name cls p)) (some n) [.Return (some (.Attribute (.Name n p2) fld p3)) p4] p5] [] [] pos) (tS X.K ca W fun l h => triRun cls fld i l (fa l h)) := by
  refine ps_imp (ps_try_as (Wout := W) (tb := fun W' => tS X.K ca W' fun l h => (fa l h).out l fun x h1 => .rt x h1) (i := i) hs hf hN hi hln (c := .ref C) ⟨hg, hdb, .inl hm⟩ tk (fun W' pn xe tk' _ => pss_one (snd_ret (ha W' pn xe tk')))
    (fun ad oe c d pn hz hfl => pss_one (ps_ret (pe_xf (C := C) T hno hz hfl (pe_var (X := X.suite ad ((ad, oe) :: pn)) (i := i) hi (.inl hln) hd1 hd2))))) fun D σ H ⟨r, l, h, rl, rh, g⟩ => ⟨r, l, h, rl, rh, ?_⟩
  dsimp only at g ⊢
  cases he : fa l h with
  | bad => rw [he] at g; exact g
  | ok x h1 => rw [he] at g; exact g
  | exc x h1 =>
    rw [he] at g
    dsimp only [triRun] at g
    split at g
    · rename_i hc
      intro r1 H1 σ1 cl dd e1 rh1 rl1 rx
      obtain ⟨C', q1, rfl, q3⟩ := rx
      rw [hc.1, hca] at q1
      cases q1
      refine ⟨true, hx, fun _ ad had => ?_, fun z => by cases z⟩
      have hlt : i < σ1.length := by rw [← rl1.1]; exact hc.2
      obtain ⟨c0, fs0⟩ := x
      rcases q3 with ⟨q4, rfl⟩ | ⟨d, f, v, q, q4, rfl, q6, q7, q8⟩
      · dsimp only at q4
        subst q4
        exact False.elim g
      · dsimp only at q4
        subst q4
        dsimp only at g
        split at g
        · rename_i hf2
          subst hf2
          refine ⟨.ref ad, List.getElem?_set_self hlt, rfl, rfl, d, _, v, rfl, q7, ?_, g r1 H1 v e1 rh1 q8⟩
          simp [List.lookup]
        · exact False.elim g
    · exact False.elim g
/-- around a def's body -/
structure Cxs (ca : Str → Option Addr) (gc : Str → Option PD) (cf : Str → List D → Hd → Res D) (c : Ck) (sc : Scope) (W : WX) (X : Cx) : Prop extends Cxt ca gc cf c sc W X where
  ow : PassesOwn (model X.prog X.w) X.A X.env X.xe
  stk : X.stack = X.env :: X.outer
  frm : X.env.frame = some X.env.locals
  fn : X.fn = fun _ => true
mutual
theorem sndS (C : Cxs ca gc cf c sc W X) : ∀ (s : S) (x : Stmt), chkS c sc s x = true → PS X x (tS X.K ca W (exS cf gc s))
  | .asg p e, x, h => by
    unfold chkS at h
    split at h
    · rename_i t v pos
      split at h
      · rename_i i
        split at h
        · rename_i n py
          simp only [Bool.and_eq_true, beq_iff_eq, Bool.or_eq_true] at h
          obtain ⟨⟨⟨h1, h2⟩, h3⟩, h4⟩ := h
          have hN : X.N.Nodup := by rw [C.hN]; exact C.nd
          have hi : X.N[i]? = some n := by rw [C.hN]; exact h1
          have pe := (sndE e C.toCxt v h3).1
          rcases h4 with h4 | ⟨h4, h5⟩
          · refine ps_eq (snd_asg hN hi (lc_of C.toCxt h2) (.inl (by rw [C.fn])) pe (sw_no h4)) fun l h => ?_
            (rw [exS]; try rfl)
          · cases v <;> first | cases h5 | skip
            rename_i elt gs s p
            cases hs : swapB sc n py (.ListComp elt gs s p) with
            | false =>
              refine ps_eq (snd_asg hN hi (lc_of C.toCxt h2) (.inl (by rw [C.fn])) pe (sw_lc (by rw [C.hs]; exact C.kd) (by rw [C.hs]; exact hs))) fun l h => ?_
              (rw [exS]; try rfl)
            | true =>
              simp only [swapB, Bool.and_eq_true, Bool.not_eq_true'] at hs
              cases e <;> first | cases h4 | skip
              rename_i m pt it t e
              unfold chkE at h3
              split at h3
              · rename_i y tg iter ifs scope pos' heq
                cases heq
                simp only [Bool.and_eq_true] at h3
                obtain ⟨⟨⟨⟨⟨g1, g2⟩, g3⟩, g4⟩, g5⟩, g6⟩ := h3
                have bo := blk_of g1
                have C0 := C.toCxt
                refine ps_imp (ps_setLc (i := i) (own := ownOf c.N pt.slots) (g := gP X.K pt) (tt := tT X.K ca W0 (evC cf gc t)) (te := tE X.K ca W0 (evE cf gc e)) C.calm hN hi (l_of C0 hs.1.1) (sw_true (by rw [C.hs]; exact C.kd) (l_of C0 hs.1.1) hs.1.2 hs.2) (sndI it C0 _ _ g3) (by rw [C.hN, C.hs]; exact bo)
                  (fun s H D cl fp => sndP (C0.blk bo.kind s H D cl fp) rfl pt _ g4) (fun s H D cl fp => sndC t (C0.blk bo.kind s H D cl fp) _ g5) (fun s H D cl fp => (sndE e (C0.blk bo.kind s H D cl fp) _ g6).1) (fold_of g2 X.env)) fun D σ H q => ?_
                rw [own_map]
                have z : exS cf gc (.asg (.nm i) (.lc m pt it t e)) = fun l h => (((evI cf gc it l h).bind fun w h1 => (lcRun pt w (evC cf gc t) (evE cf gc e) l w.items [] h1).bind fun ds h2 => mkL m ds h2)).out l fun x h1 => .nx (l.set i (some x)) h1 := by
                  funext l h
                  rw [exS, evE]
                rw [z] at q
                exact lc_read (asg_read q)
              · cases h3
        · cases h
      · rename_i ps
        split at h
        · rename_i es k tp
          simp only [Bool.and_eq_true] at h
          obtain ⟨⟨h1, h2⟩, h3⟩ := h
          have hg : PG X (.Tuple es k tp) (gP X.K (.tp ps)) := sndP C.toCxt C.fn (.tp ps) _ (by unfold chkP; exact h2)
          refine ps_eq (snd_asgP (sndE e C.toCxt v h3).1 hg sw_tup (st_tup h1)) fun l h => ?_
          (rw [exS]; try rfl)
        · cases h
    · cases h
  | .par is es, x, h => by
    unfold chkS at h
    have hk : X.env.scope.kind = .function := by rw [C.hs]; exact C.kd
    have hN : X.N.Nodup := by rw [C.hN]; exact C.nd
    split at h
    · rename_i x px y py kt pt vs k2 pt2 pos
      split at h
      · rename_i i j
        simp only [Bool.and_eq_true, beq_iff_eq] at h
        obtain ⟨⟨⟨⟨h1, h2⟩, h3⟩, h4⟩, h5⟩ := h
        have hp := par_two (env := X.env) (px := px) (py := py) (pt := pt) (pt2 := pt2) (kt := kt) (k2 := k2) hk h4 (by rw [C.hs]; exact h3)
        have pa := sndEs es C.toCxt vs h5
        simp only [parB, Bool.and_eq_true, List.all_cons, List.all_nil, Bool.and_true, decide_eq_true_eq] at h3
        have hne : x ≠ y := by simpa using h3.1.1.1.1.2
        have hij : i ≠ j := fun e => hne (by rw [e, h2] at h1; exact (Option.some.inj h1).symm)
        match vs, h4, pa, hp with
        | [a, b], _, pa, hp =>
          refine ps_eq (snd_par2 (i := i) (j := j) C.calm hN (by rw [C.hN]; exact h1) (by rw [C.hN]; exact h2) hij (l_of C.toCxt h3.1.1.1.1.1.1) (l_of C.toCxt h3.1.1.1.1.1.2) pa hp) fun l h => ?_
          (rw [exS]; try rfl)
      · cases h
    · rename_i x px y py z pz kt pt vs k2 pt2 pos
      split at h
      · rename_i i j k
        simp only [Bool.and_eq_true, beq_iff_eq] at h
        obtain ⟨⟨⟨⟨⟨h1, h2⟩, h2'⟩, h3⟩, h4⟩, h5⟩ := h
        have hp := par_three (env := X.env) (px := px) (py := py) (pz := pz) (pt := pt) (pt2 := pt2) (kt := kt) (k2 := k2) hk h4 (by rw [C.hs]; exact h3)
        have pa := sndEs es C.toCxt vs h5
        simp only [parB, Bool.and_eq_true, List.all_cons, List.all_nil, Bool.and_true, decide_eq_true_eq] at h3
        have hne : (x ≠ y ∧ x ≠ z) ∧ y ≠ z := by simpa using h3.1.1.1.1.2
        have hij : i ≠ j := fun e => hne.1.1 (by rw [e, h2] at h1; exact (Option.some.inj h1).symm)
        have hik : i ≠ k := fun e => hne.1.2 (by rw [e, h2'] at h1; exact (Option.some.inj h1).symm)
        have hjk : j ≠ k := fun e => hne.2 (by rw [e, h2'] at h2; exact (Option.some.inj h2).symm)
        match vs, h4, pa, hp with
        | [a, b, d], _, pa, hp =>
          refine ps_eq (snd_par3 (i := i) (j := j) (k := k) C.calm hN (by rw [C.hN]; exact h1) (by rw [C.hN]; exact h2) (by rw [C.hN]; exact h2') hij hik hjk (l_of C.toCxt h3.1.1.1.1.1.1) (l_of C.toCxt h3.1.1.1.1.1.2.1) (l_of C.toCxt h3.1.1.1.1.1.2.2) pa hp) fun l h => ?_
          (rw [exS]; try rfl)
      · cases h
    · cases h
  | .put o i v, x, h => by
    unfold chkS at h
    split at h
    · rename_i y z tp x pos
      simp only [Bool.and_eq_true] at h
      obtain ⟨⟨⟨h1, h2⟩, h3⟩, h4⟩ := h
      refine ps_eq (snd_put (sndE v C.toCxt x h2).1 (sndE o C.toCxt y h3).1 (sndE i C.toCxt z h4).1 sw_sub st_sub (fun v => by cases z <;> first | rfl | cases h1)) fun l h => ?_
      (rw [exS]; try rfl)
    · cases h
  | .aug op i e, x, h => by
    unfold chkS at h
    split at h
    · rename_i n p o v pos
      simp only [Bool.and_eq_true, Bool.or_eq_true, decide_eq_true_eq, beq_iff_eq] at h
      obtain ⟨⟨⟨⟨rfl, h1⟩, h2⟩, h3⟩, h4⟩ := h
      refine ps_eq (snd_aug (i := i) (by rw [C.hN]; exact C.nd) (by rw [C.hN]; exact h2) (lc_of C.toCxt h3) (.inl (by rw [C.fn])) h1 (sndE e C.toCxt v h4).1) fun l h => ?_
      (rw [exS]; try rfl)
    · cases h
  | .exp e, x, h => by
    unfold chkS at h
    split at h
    · rename_i v pos
      simp only [Bool.and_eq_true] at h
      refine ps_eq (snd_exp (sndE e C.toCxt v h.2).1 (sw_no h.1)) fun l h => ?_
      (rw [exS]; try rfl)
    · cases h
  | .ret e, x, h => by
    unfold chkS at h
    split at h
    · rename_i v pos
      refine ps_eq (snd_ret (sndE e C.toCxt v h).1) fun l h => ?_
      (rw [exS]; try rfl)
    · cases h
  | .retN, x, h => by
    unfold chkS at h
    split at h
    · refine ps_eq snd_retN fun l h => ?_
      (rw [exS]; try rfl)
    · cases h
  | .ifs t a b, x, h => by
    unfold chkS at h
    split at h
    · rename_i y ys zs pos
      simp only [Bool.and_eq_true] at h
      obtain ⟨⟨⟨h1, h2⟩, h3⟩, h4⟩ := h
      refine ps_eq (snd_ifs ((sndE t C.toCxt y h2).2 h1) (sndSs C a ys h3) (sndSs C b zs h4)) fun l h => ?_
      (rw [exS]; try rfl)
    · cases h
  | .whl t b, x, h => by
    unfold chkS at h
    split at h
    · rename_i y ys pos
      simp only [Bool.and_eq_true] at h
      obtain ⟨⟨h1, h2⟩, h3⟩ := h
      refine ps_eq (snd_whl C.ow ((sndE t C.toCxt y h2).2 h1) (sndSs C b ys h3)) fun l h => ?_
      (rw [exS]; try rfl)
    · cases h
  | .for p it b, x, h => by
    unfold chkS at h
    split at h
    · rename_i tg iter ys pos
      simp only [Bool.and_eq_true] at h
      obtain ⟨⟨⟨h1, h2⟩, h3⟩, h4⟩ := h
      refine ps_eq (snd_for C.ow C.calm (sndI it C.toCxt iter tg h2) (sndP C.toCxt C.fn p tg h3) (sndSs C b ys h4) (fold_of h1 X.env)) fun l h => ?_
      (rw [exS]; try rfl)
    · cases h
  | .pas, x, h => by
    unfold chkS at h
    split at h
    · refine ps_eq snd_pas fun l h => ?_
      (rw [exS]; try rfl)
    · refine ps_eq snd_doc fun l h => ?_
      (rw [exS]; try rfl)
    · cases h
  | .brk, x, h => by
    unfold chkS at h
    split at h
    · refine ps_eq snd_brk fun l h => ?_
      (rw [exS]; try rfl)
    · cases h
  | .cnt, x, h => by
    unfold chkS at h
    split at h
    · refine ps_eq snd_cnt fun l h => ?_
      (rw [exS]; try rfl)
    · cases h
  | .stop, x, h => by
    refine ps_eq snd_stop fun l h => ?_
    (rw [exS]; try rfl)
  | .rse cls fld e, x, h => by
    unfold chkS at h
    split at h
    · rename_i g p y pos pos2
      simp only [Bool.and_eq_true, beq_iff_eq] at h
      obtain ⟨⟨⟨⟨⟨rfl, h1⟩, h2⟩, h3⟩, h4⟩, h5⟩ := h
      obtain ⟨hr, K0, B, newId, initId, bm, fI, fd, sv, xv, k1, k2, k3, k4, k5, k6, k7, k8, k9, k10⟩ := C.md.xc g fld h3
      refine ps_eq (snd_rse k1 k3 k4 k5 k6 hr k7 (gl_of C.toCxt h1) k2 C.calm C.tk (sndE e C.toCxt y h5).1 (okn h2).1 (star_ne h4)) fun l h => ?_
      (rw [exS]; try rfl)
    · cases h
  | .tri e cls fld i, x, h => by
    unfold chkS at h
    split at h
    · rename_i y p0 g p n n2 p2 fl p3 p4 p5 pos
      simp only [Bool.and_eq_true, beq_iff_eq] at h
      obtain ⟨⟨⟨⟨⟨⟨⟨⟨⟨rfl, h1⟩, h2⟩, h3⟩, h4⟩, rfl⟩, h6⟩, h7⟩, rfl⟩, h9⟩ := h
      obtain ⟨hr, K0, B, newId, initId, bm, fI, fd, sv, xv, k1, k2, k3, k4, k5, k6, k7, k8, k9, k10⟩ := C.md.xc g fl h3
      have C0 := C.toCxt
      refine ps_eq (snd_tri (fa := evE cf gc e) k1 k2 k8 k9 k10 C.stk C.frm (by rw [C.hN]; exact C.nd) (by rw [C.hN]; exact h4) (l_of C0 h6) (gl_of C0 h1) (okn h2).1 (okn h7).1 (okn h7).2.1 C.tk fun W' pn xe tk => ?_) fun l h => ?_
      · exact (sndE e (X := X.tr pn xe) ⟨C0.hN, C0.nd, C0.hs, C0.kd, C0.calm, C0.hu, C0.gd, tk, C0.md⟩ y h9).1
      · (rw [exS]; try rfl)
    · cases h
theorem sndSs (C : Cxs ca gc cf c sc W X) : ∀ (ss : Ss) (xs : List Stmt), chkSs c sc ss xs = true → PSs X xs (tS X.K ca W (exSs cf gc ss))
  | .nil, xs, h => by
    cases xs with
    | nil =>
      refine pss_eq snd_ss0 fun l h => ?_
      (rw [exSs]; try rfl)
    | cons x ys => simp [chkSs] at h
  | .cons s r, xs, h => by
    cases xs with
    | nil => simp [chkSs] at h
    | cons x ys =>
      simp only [chkSs, Bool.and_eq_true] at h
      refine pss_eq (snd_ss (sndS C s x h.1) (sndSs C r ys h.2)) fun l h => ?_
      (rw [exSs]; try rfl)
end
end
end Mi

/-! Mi: defs. -/
namespace Mi
open PySem PySem.Spec PyProof.Rows L2
section
variable {K : Frg} {ca : Str → Option Addr} {r r' : Rho} {H H' : Hp} {h h1 : Hd}
theorem Stb.cut {t : List Addr} (e1 : r'.at_ = r.at_ ++ t) (e2 : r'.hid = r.hid) : Stb r' H r H :=
  ⟨fun b u x y => ⟨x, fun w => y.1 (by rw [e1]; exact List.mem_append_left _ w), fun w => y.2 (by rw [e2]; exact w)⟩, fun b xs x _ => x⟩
theorem Ext.cut (e : Ext r H r' H') : Ext r H r H' :=
  ⟨⟨fun a u x y => ⟨(e.stb.rd a u x y).1, y⟩, e.stb.ex⟩, ⟨[], by simp⟩, rfl, e.hk⟩
theorem RX.cut {x : Xc} {cls : Value} {dd : Option Addr} (q : RX K ca r' H x cls dd) (s : Stb r' H r H) (e : ∀ a, Off r' a → Off r a) : RX K ca r H x cls dd := by
  obtain ⟨C, h1, h2, h3⟩ := q
  refine ⟨C, h1, h2, h3.imp id ?_⟩
  rintro ⟨d, f, v, p, z1, z2, z3, z4, z5⟩
  exact ⟨d, f, v, p, z1, z2, e d z3, z4, RP.mono s _ _ z5⟩
/-- one object more of those behind -/
theorem RH.cut1 (q : RH K r' H h) {t : List Addr} (e1 : r'.at_ = r.at_ ++ t) (e2 : r'.hid = r.hid) {m : Nat} {a : Addr} {o : Ob} (hm : r.at_.length ≤ m) (ha : r'.at_[m]? = some a) (ho : h[m]? = some o) : RH K (r.push a) H (h.take r.at_.length ++ [o]) ∧ Stb r' H (r.push a) H ∧ a ∉ r.at_ := by
  have hl := q.len
  rw [e1, List.length_append] at hl
  have nd := q.nd
  rw [e1] at nd
  have na : a ∈ t := by
    rw [e1, List.getElem?_append_right hm] at ha
    exact List.mem_of_getElem? ha
  have nr : a ∉ r.at_ := fun z => (List.nodup_append.mp nd).2.2 a z a na rfl
  have st : Stb r' H (r.push a) H := ⟨fun b u x y => ⟨x, fun w => y.1 (by
      rw [e1]
      rcases List.mem_append.mp w with w | w
      · exact List.mem_append_left _ w
      · have : b = a := by simpa using w
        rw [this]
        exact List.mem_append_right _ na), fun w => y.2 (by rw [e2]; exact w)⟩, fun b xs x _ => x⟩
  refine ⟨⟨?_, ?_, fun n o' b h1 h2 => ?_, fun b hb => ?_⟩, st, nr⟩
  · show (r.at_ ++ [a]).Nodup
    rw [List.nodup_append]
    refine ⟨(List.nodup_append.mp nd).1, by simp, fun x hx y hy z => ?_⟩
    have ey : y = a := by simpa using hy
    subst ey
    subst z
    exact nr hx
  · simp [Rho.push]
    omega
  · have h2 : (r.at_ ++ [a])[n]? = some b := h2
    by_cases hn : n < r.at_.length
    · rw [List.getElem?_append_left (by rw [List.length_take]; omega), List.getElem?_take_of_lt hn] at h1
      rw [List.getElem?_append_left hn] at h2
      exact (q.ob n o' b h1 (by rw [e1, List.getElem?_append_left hn]; exact h2)).keep st rfl
    · have hlt := (List.getElem?_eq_some_iff.mp h2).1
      have en : n = r.at_.length := by simp at hlt; omega
      subst en
      rw [List.getElem?_append_right (Nat.le_refl _)] at h2
      rw [List.getElem?_append_right (by rw [List.length_take]; omega)] at h1
      have e0 : r.at_.length - (h.take r.at_.length).length = 0 := by rw [List.length_take]; omega
      rw [e0] at h1
      simp at h1 h2
      subst h1
      subst h2
      exact (q.ob m o a ho ha).keep st rfl
  · obtain ⟨z1, z2⟩ := q.hd b (by rw [e2]; exact hb)
    refine ⟨z1, fun w => z2 ?_⟩
    rw [e1]
    rcases List.mem_append.mp w with w | w
    · exact List.mem_append_left _ w
    · have : b = a := by simpa using w
      rw [this]
      exact List.mem_append_right _ na
theorem start_rl {N : List Str} {vs : List V} {ds : List D} (q : RVs K r H vs ds) : RL K r H (ds.map some ++ List.replicate (N.length - ds.length) none) (L2.start N vs) := by
  have hl := q.length
  refine ⟨by simp [L2.start, hl], fun i d hd => ?_⟩
  have hlt : i < ds.length := by
    by_cases hi : i < ds.length
    · exact hi
    · rw [List.getElem?_append_right (by simpa using hi)] at hd
      rw [List.getElem?_replicate] at hd
      split at hd <;> cases hd
  rw [List.getElem?_append_left (by simpa using hlt), List.getElem?_map] at hd
  have hd' : ds[i]? = some d := by
    cases z : ds[i]? with
    | none => rw [z] at hd; cases hd
    | some e => rw [z] at hd; cases hd; rfl
  have key : ∀ {vs : List V} {ds : List D} {i : Nat} {d : D}, RVs K r H vs ds → ds[i]? = some d → ∃ v, vs[i]? = some v ∧ RV K r H v d := by
    intro vs ds i d q
    induction q generalizing i with
    | nil => intro e; simp at e
    | cons a b ih =>
      intro e
      cases i with
      | zero => simp at e; subst e; exact ⟨_, rfl, a⟩
      | succ i => simp at e; obtain ⟨v, z1, z2⟩ := ih e; exact ⟨v, by simpa using z1, z2⟩
  obtain ⟨v, h1, h2⟩ := key q hd'
  refine ⟨v, ?_, h2⟩
  show (vs.map some ++ _)[i]? = _
  rw [List.getElem?_append_left (by rw [List.length_map, hl]; exact hlt), List.getElem?_map, h1]
  rfl
/-- the body's end read as the promise -/
theorem run_read {cf : Str → List D → Hd → Res D} {gc : Str → Option PD} {keep : Bool} {body : Ss} {N : List Str} {vs : List V} {ds : List D} {Q : VK} {E : XK} (rvs : RVs K r H vs ds) (rh : RH K r H h)
    (g : match runDef cf gc keep N.length body ds h with
      | .ok d h' => ∀ v r' H', Ext r H r' H' → RH K r' H' h' → RV K r' H' v d → Q v H'
      | .exc x h' => ∀ H' cls dd, Ext r H r H' → RH K r H' h' → RX K ca r H' x cls dd → E cls dd H'
      | .bad => False) :
    tS K ca (fun cls d _ H => E cls d H) (exSs cf gc body) { nx := fun _ H' => Q .non H', rt := Q } (L2.start N vs) H := by
  refine ⟨r, _, h, start_rl rvs, rh, ?_⟩
  unfold runDef at g
  cases hx : exSs cf gc body (ds.map some ++ List.replicate (N.length - ds.length) none) h with
  | nx l1 h1 =>
    rw [hx] at g
    intro r1 H1 σ1 e1 rh1 _
    obtain ⟨t, et⟩ := e1.pre
    refine g .non r H1 e1.cut ?_ RP.non
    rw [← rh.len]
    exact rh1.cut et e1.hd
  | bk l1 h1 => rw [hx] at g; exact False.elim g
  | ct l1 h1 => rw [hx] at g; exact False.elim g
  | bad => rw [hx] at g; exact False.elim g
  | exc x l1 h1 =>
    rw [hx] at g
    intro r1 H1 σ1 cls dd e1 rh1 _ rx
    obtain ⟨t, et⟩ := e1.pre
    refine g H1 cls dd e1.cut ?_ (rx.cut (Stb.cut et e1.hd) fun a ha => ⟨fun w => ha.1 (by rw [et]; exact List.mem_append_left _ w), fun w => ha.2 (by rw [e1.hd]; exact w)⟩)
    rw [← rh.len]
    exact rh1.cut et e1.hd
  | rt d h1 =>
    rw [hx] at g
    intro r1 H1 v e1 rh1 rv
    obtain ⟨t, et⟩ := e1.pre
    have st : Stb r1 H1 r H1 := Stb.cut et e1.hd
    have cut : RH K r H1 (h1.take h.length) := by rw [← rh.len]; exact rh1.cut et e1.hd
    cases d with
    | dat d => exact g v r H1 e1.cut cut (RP.mono st _ _ rv)
    | scr ns =>
      obtain ⟨a, rfl, z⟩ := rv
      exact g (.ref a) r H1 e1.cut cut ⟨a, rfl, z.mono st⟩
    | ref m =>
      obtain ⟨a, ha, rfl⟩ := rv
      dsimp only [leave] at g
      by_cases hm : m < h.length
      · rw [if_pos hm] at g
        refine g (.ref a) r H1 e1.cut cut ⟨a, ?_, rfl⟩
        rw [et, List.getElem?_append_left (by rw [rh.len]; exact hm)] at ha
        exact ha
      · rw [if_neg hm] at g
        cases ho : h1[m]? with
        | none => rw [ho] at g; exact False.elim g
        | some o =>
          rw [ho] at g
          dsimp only at g
          obtain ⟨q1, q2, q3⟩ := rh1.cut1 et e1.hd (by rw [rh.len]; omega) ha ho
          cases keep with
          | true =>
            rw [if_pos rfl] at g
            refine g (.ref a) (r.push a) H1 ⟨⟨fun b u x y => q2.rd b u (e1.stb.rd b u x y).1 (e1.stb.rd b u x y).2, e1.stb.ex⟩, ⟨[a], rfl⟩, rfl, e1.hk⟩ ?_ ⟨a, ?_, rfl⟩
            · rw [← rh.len]; exact q1
            · rw [← rh.len]; simp [Rho.push]
          | false =>
            rw [if_neg Bool.false_ne_true] at g
            have of : Off r a := ⟨q3, fun w => (rh1.hd a (by rw [e1.hd]; exact w)).2 (List.mem_of_getElem? ha)⟩
            have ro := (rh1.ob m o a ho ha).keep st rfl
            refine g (.ref a) r H1 e1.cut cut ?_
            cases o with
            | lst ds =>
              obtain ⟨ys, z1, z2⟩ := ro
              exact RP.lst z1 of z2
            | dct ds =>
              obtain ⟨ys, z1, z2⟩ := ro
              exact RP.dct (.inl z1) of z2
end
/-- a def of the table -/
structure Row (K : Frg) (mg : Str → Option Value) (fs cs : Str → Bool) (xs : Str → Option Str) (Pd : Str → Option Def) (f : Str) (a : Addr) (fd : FuncData) (ps : List Str) : Prop where
  ex : ∃ (x qual : Str) (st : Stmt) (N : List Str) (d : Def), L2.Fun K x qual st a fd ∧ FnScope N ps (defScope st) ∧ mg f = some (.ref a) ∧ Binds K fd ps [] ∧ Pd f = some d ∧ d.size = N.length ∧ d.pars = ps.length ∧ chkSs ⟨N, fs, cs, xs⟩ (defScope st) d.body (defBody st) = true
theorem callN_len {gc : Str → Option PD} {Pd : Str → Option Def} {f : Str} {d : Def} (e : Pd f = some d) : ∀ (n : Nat) (ds : List D) (h : Hd), ds.length ≠ d.pars → callN gc Pd n f ds h = .bad
  | 0, _, _, _ => rfl
  | n + 1, ds, h, hl => by
    unfold callN
    rw [e]
    dsimp only
    rw [if_neg hl]
section
variable {P : Program} {w : World} {K : Frg} {mg : Str → Option Value} {base : Heap} {ca : Str → Option Addr} {gc : Str → Option PD} {fs cs : Str → Bool} {xs : Str → Option Str} {Pd : Str → Option Def}
/-- the exceptions of the module -/
def XcOk (P : Program) (w : World) (K : Frg) (mg : Str → Option Value) (base : Heap) (ca : Str → Option Addr) (xs : Str → Option Str) : Prop := ∀ c f, xs c = some f → ∃ C B newId initId bm fI fd sv xv, ca c = some C ∧ mg c = some (.ref C) ∧ OxC K C B newId initId bm ∧ PySem.W.findIn K (.ref C) "__init__" = some (some (.ref fI)) ∧ PySem.W.typeIn K (.ref fI) = some (.type "function") ∧
    FnOk P w K mg base (L2.CX P w) 1 fI fd [sv, xv] (spI C f) ∧ Binds K fd [sv, xv] [] ∧ XfC K C ∧ PySem.W.findIn K (.ref C) f = some none ∧ PySem.W.exmOne K (.ref C) (.ref C) = some true
theorem fn_all (tab : ∀ f, fs f = true → ∃ a fd ps, Row K mg fs cs xs Pd f a fd ps) (cn : ∀ x, cs x = true → (gc x).isSome = true) (cv : ∀ x d, gc x = some d → ∃ u v, mg x = some u ∧ RelV v u ∧ ∀ r H, RP K r H v d) (bl : ∀ x ∈ bltNames, mg x = none) (xc : XcOk P w K mg base ca xs) :
    ∀ (n : Nat) (f : Str) (a : Addr) (fd : FuncData) (ps : List Str), Row K mg fs cs xs Pd f a fd ps → FnG P w K mg base (n + 2) a fd ps (spD K ca ps.length (callN gc Pd n f))
  | 0, f, a, fd, ps, R => ⟨fun vs H Q E ⟨r, h, ds, h1, h2, h3, h4⟩ => False.elim h4, fun _ _ _ _ _ ⟨r, h, ds, h1, h2, h3, h4⟩ => False.elim h4⟩
  | n + 1, f, a, fd, ps, ⟨x, qual, st, N, d, F, S, hm, hb, hd, hz, hp, hc⟩ => by
    refine fnG_of F S (fun vs H Q E ⟨r, h, ds, h1, h2, h3, h4⟩ => h1.length.trans h3) fun cdv A outer s H vs Q E hq hr ⟨r, h, ds, h1, h2, h3, h4⟩ => ?_
    refine ⟨tS K ca (fun cls d _ H => E cls d H) (exSs (callN gc Pd n) gc d.body), ?_, ?_⟩
    · refine sndSs (X := cxOf (L2.CX P w) P w K mg base N qual (defScope st) a cdv A outer s H E) (c := ⟨N, fs, cs, xs⟩) (sc := defScope st) ?_ d.body (defBody st) hc
      refine { hN := rfl, nd := S.nd, hs := rfl, kd := S.kind, calm := rfl, hu := ?_, gd := hq, tk := takes_of rfl rfl rfl rfl, md := ?_, ow := passes_of rfl, stk := rfl, frm := rfl, fn := rfl }
      · have := hr.un
        show (A.deeper _).units + 65 < cLine
        omega
      · refine ⟨fun f' hf' => ?_, cn, cv, bl, fun c f h => ⟨hr.mono (by omega), xc c f h⟩⟩
        obtain ⟨a', fd', ps', R'⟩ := tab f' hf'
        obtain ⟨x', qual', st', N', d', F', S', hm', hb', hd', hz', hp', hc'⟩ := R'.ex
        exact ⟨n + 2, ps'.length, a', fd', ps', fn_all tab cn cv bl xc n f' a' fd' ps' R', hr, hm', F'.kp, hb', fun ds h hl => callN_len hd' n ds h (by rw [hp']; exact hl)⟩
    · unfold callN at h4
      rw [hd] at h4
      dsimp only at h4
      rw [if_pos (by rw [hp]; exact h3), hz] at h4
      exact run_read h1 h2 h4
end
end Mi

/-! Mi: the end of a law. -/
namespace Mi
open PySem PySem.Spec PyProof.Rows L2
/-- the classes of the module -/
def caK (K : Frg) (c : Str) : Option Addr := match PySem.W.nsIn K mainGlobals c with
  | some (some (.ref a)) => some a
  | _ => none
/-- the law's promise -/
noncomputable def spL (gc : Str → Option PD) (Pd : Str → Option Def) (n : Nat) (K : Frg) : Sp := spD K (caK K) 1 (callN gc Pd n "law")
/-- the script enters -/
theorem spL_of {gc : Str → Option PD} {Pd : Str → Option Def} {n : Nat} {ns : List Int} (h : ∃ h', callN gc Pd n "law" [.scr ns] [] = .ok (.dat (.bool true)) h') (K : Frg) (H : Hp) (a : Addr) (hS : SqL K H a (ns.map V.int)) :
    spL gc Pd n K [.ref a] H (fun v _ => v = .bl true) fun _ _ _ => False := by
  obtain ⟨h', e⟩ := h
  refine ⟨⟨[], []⟩, [], [.scr ns], .cons ⟨a, rfl, ?_⟩ .nil, ⟨by simp, rfl, fun n o a h1 => by simp at h1, fun a ha => by cases ha⟩, rfl, ?_⟩
  · rcases hS with z | z
    · exact .inl ⟨⟨by simp, by simp⟩, z⟩
    · exact .inr z
  · rw [e]
    intro v r' H' _ _ rv
    cases rv
    rfl
/-- an own exception with one field, by the head's facts -/
def XF (K : Frg) (c f : Str) (B : String) (newId initId : String) (bm : List Value) (st : Stmt) (qual : Str) : Prop := ∃ (C fI : Addr) (oc : Value) (od : Option Addr) (kV dc pm : Value) (an : Option Addr) (cd ct : Value) (sl : Array (Option Value)),
  PySem.W.nsIn K mainGlobals c = some (some (.ref C)) ∧ (∃ nm q N bs sn sub ab col dd k0 k1 k2 k3 k5, K.lookup C = some (excClassObj nm q C N bs bm true sn sub ab col dd k0 k1 k2 k3 k5 newId)) ∧
  PySem.W.findIn K (.ref C) "__setattr__" = some (some (.builtin "object.__setattr__")) ∧ PySem.W.subIn K (.ref C) (.type "BaseException") = some true ∧ PySem.W.typeIn K (.ref C) = some (.type "type") ∧ PySem.W.keepIn K (.ref C) = true ∧
  PySem.W.findIn K (.ref C) "__init__" = some (some (.ref fI)) ∧ PySem.W.typeIn K (.ref fI) = some (.type "function") ∧
  K.lookup fI = some ⟨oc, od, .func (PySem.W.fnOf "__init__" qual (defArgs st) (defBody st) (defScope st) .none kV dc pm an cd ct), sl⟩ ∧ PySem.W.codeIn K cd qual = true ∧ PySem.W.keepIn K (.ref fI) = true ∧
  PySem.W.findIn K (.ref C) f = some none ∧ xfB K C = true ∧ PySem.W.exmOne K (.ref C) (.ref C) = some true ∧
  PySem.W.findCls K (.type B) (.type "type") "__init__" = some (.val (.builtin initId)) ∧ PySem.W.nsIn K mainGlobals (Str.ofString B) = some none
theorem xc_of {P : Program} {w : World} {K : Frg} {mg : Str → Option Value} {base h : Heap} {c f : Str} {B newId initId : String} {bm : List Value} {st : Stmt} {qual sv xv : Str} (kin : K.In h) (G : h.Ns mainGlobals mg) (fact : ExcBaseFacts B newId initId bm) (sf : StoreFacts B bm "object.__setattr__" "object")
    (boot : bootBuiltins (Str.ofString B) = some (.type B)) (ty : typeOf (.type B) = pure (.type "type")) (stub : Manifest.isStub B = false) (hand : PySem.W.handedIn (.builtin initId) = true) (nm : Str.ofString B ≠ "__name__") (db : (Str.ofString B == ("__debug__" : Str)) = false)
    (S : FnScope [sv, xv] [sv, xv] (defScope st)) (hf : initOk B f sv xv (defBody st) = true) (hg : (defScope st).names.lookup (Str.ofString B) = some .globalImplicit) (hd1 : (sv == ("__debug__" : Str)) = false) (hd2 : (sv == ("__classdict__" : Str)) = false) (hd3 : (xv == ("__debug__" : Str)) = false) (hd4 : (xv == ("__classdict__" : Str)) = false)
    (hb : ∀ (kV dc pm : Value) (an : Option Addr) (cd ct : Value) (us : List Value), us.length = 2 → bindArgs (PySem.W.fnOf "__init__" qual (defArgs st) (defBody st) (defScope st) .none kV dc pm an cd ct) ⟨us, []⟩ = pure ([sv, xv].zip us))
    (q : XF K c f B newId initId bm st qual) :
    ∃ C B newId initId bm fI fd sv xv, caK K c = some C ∧ mg c = some (.ref C) ∧ OxC K C B newId initId bm ∧ PySem.W.findIn K (.ref C) "__init__" = some (some (.ref fI)) ∧ PySem.W.typeIn K (.ref fI) = some (.type "function") ∧
    FnOk P w K mg base (L2.CX P w) 1 fI fd [sv, xv] (spI C f) ∧ Binds K fd [sv, xv] [] ∧ XfC K C ∧ PySem.W.findIn K (.ref C) f = some none ∧ PySem.W.exmOne K (.ref C) (.ref C) = some true := by
  obtain ⟨C, fI, oc, od, kV, dc, pm, an, cd, ct, sl, x1, x2, x3, x4, x5, x6, x7, x8, x9, x10, x11, x12, x13, x14, x15, x16⟩ := q
  have T : OxC K C B newId initId bm := ⟨fact, sf, x2, x3, x4, x5, x6⟩
  have F : L2.Fun K "__init__" qual st fI _ := fun_mk (st := st) x9 x10 x11
  refine ⟨C, B, newId, initId, bm, fI, _, sv, xv, ?_, PySem.W.mg_of kin G x1, T, x7, x8, ok_init F S T ⟨boot, ty, stub, x15, hand, nm, db⟩ (PySem.W.mg_none_of kin G x16) x12 hf hg hd1 hd2 hd3 hd4, Binds.all (hb kV dc pm an cd ct), xfB_ok x13, x12, x14⟩
  unfold caK
  rw [x1]
end Mi

/-! Mi: running the instructions on plain data: loops, comprehensions. -/
namespace Mi
open PySem
theorem call_def {gc : Str → Option PD} {Pd : Str → Option Def} {f : Str} {d : Def} {n : Nat} {ds : List D} {h : Hd} (e : Pd f = some d) (hl : ds.length = d.pars) : callN gc Pd (n + 1) f ds h = runDef (callN gc Pd n) gc d.keep d.size d.body ds h := by
  unfold callN
  rw [e]
  dsimp only
  rw [if_pos hl]
theorem bind_ok {α β : Type} (a : α) (h : Hd) (f : α → Hd → Res β) : (Res.ok a h).bind f = f a h := rfl
theorem out_ok {α : Type} (l : Loc) (a : α) (h : Hd) (f : α → Hd → Out) : (Res.ok a h).out l f = f a h := rfl
theorem nox_ok {α : Type} (a : α) (h : Hd) : (Res.ok a h).nox = .ok a h := rfl
theorem stays_none (items : List PD) (h : Hd) : Walk.stays ⟨items, none⟩ h := fun _ _ e => by cases e
/-- a comprehension that leaves the heap as it is -/
theorem lcRun_map {p : Pt} {items0 : List PD} {tst : Loc → Hd → Res Bool} {elt : Loc → Hd → Res D} {l : Loc} {h : Hd} (t : PD → Bool) (f : PD → PD) : ∀ (items acc : List PD), acc.length + items.length ≤ sizeLine →
    (∀ d ∈ items, ∃ l', bindP p d (wipeL l p.slots) = some l' ∧ tst l' h = .ok (t d) h ∧ (t d = true → elt l' h = .ok (.dat (f d)) h)) → lcRun p ⟨items0, none⟩ tst elt l items acc h = .ok (acc ++ (items.filter t).map f) h
  | [], acc, _, _ => by
    unfold lcRun
    rw [if_pos (stays_none items0 h)]
    simp
  | d :: r, acc, hz, hd => by
    obtain ⟨l', h1, h2, h3⟩ := hd d List.mem_cons_self
    unfold lcRun
    rw [if_pos (stays_none items0 h), h1]
    dsimp only
    rw [h2]
    simp only [List.length_cons] at hz
    cases ht : t d with
    | false =>
      simp only [nox_ok, bind_ok]
      rw [if_neg Bool.false_ne_true, lcRun_map t f r acc (by omega) fun e he => hd e (List.mem_cons_of_mem _ he)]
      simp [ht]
    | true =>
      simp only [nox_ok, bind_ok]
      rw [if_pos trivial, h3 ht]
      simp only [nox_ok, bind_ok]
      rw [if_pos (by omega), lcRun_map t f r (acc ++ [f d]) (by simp; omega) fun e he => hd e (List.mem_cons_of_mem _ he)]
      simp [ht]
/-- a comprehension without a test whose items change the heap -/
theorem lcRun_st {p : Pt} {items0 : List PD} {elt : Loc → Hd → Res D} {tst : Loc → Hd → Res Bool} {l : Loc} (I : List PD → Hd → Prop) (htst : ∀ l h, tst l h = .ok true h) : ∀ (items acc : List PD) (h : Hd), acc.length + items.length ≤ sizeLine → I acc h →
    (∀ d ∈ items, ∀ acc h, I acc h → ∃ l', bindP p d (wipeL l p.slots) = some l' ∧ ∃ y h', elt l' h = .ok (.dat y) h' ∧ I (acc ++ [y]) h') → ∃ acc' h', lcRun p ⟨items0, none⟩ tst elt l items acc h = .ok acc' h' ∧ I acc' h' ∧ acc'.length = acc.length + items.length
  | [], acc, h, _, hi, _ => by
    unfold lcRun
    rw [if_pos (stays_none items0 h)]
    exact ⟨acc, h, rfl, hi, rfl⟩
  | d :: r, acc, h, hz, hi, hd => by
    obtain ⟨l', h1, y, h', h2, h3⟩ := hd d List.mem_cons_self acc h hi
    simp only [List.length_cons] at hz
    obtain ⟨acc', h4, h5, h6, h7⟩ := lcRun_st I htst r (acc ++ [y]) h' (by simp; omega) h3 fun e he => hd e (List.mem_cons_of_mem _ he)
    refine ⟨acc', h4, ?_, h6, by rw [h7]; simp; omega⟩
    unfold lcRun
    rw [if_pos (stays_none items0 h), h1]
    dsimp only
    rw [htst]
    simp only [nox_ok, bind_ok]
    rw [if_pos trivial, h2]
    simp only [nox_ok, bind_ok]
    rw [if_pos (by omega), h5]
theorem ev_lcF {cf : Str → List D → Hd → Res D} {gc : Str → Option PD} {p : Pt} {it : Itr} {c : Eo} {e : E} {l : Loc} {h : Hd} {items : List PD} (t : PD → Bool) (f : PD → PD) (hI : evI cf gc it l h = .ok ⟨items, none⟩ h) (hz : items.length ≤ sizeLine)
    (hd : ∀ d ∈ items, ∃ l', bindP p d (wipeL l p.slots) = some l' ∧ evC cf gc c l' h = .ok (t d) h ∧ (t d = true → evE cf gc e l' h = .ok (.dat (f d)) h)) : evE cf gc (.lc false p it c e) l h = .ok (.dat (.list ((items.filter t).map f))) h := by
  rw [evE, hI]
  simp only [bind_ok]
  rw [lcRun_map t f items [] (by simpa using hz) hd]
  rfl
theorem ev_lcM {cf : Str → List D → Hd → Res D} {gc : Str → Option PD} {p : Pt} {it : Itr} {e : E} {l : Loc} {h : Hd} {items : List PD} (f : PD → PD) (hI : evI cf gc it l h = .ok ⟨items, none⟩ h) (hz : items.length ≤ sizeLine)
    (hd : ∀ d ∈ items, ∃ l', bindP p d (wipeL l p.slots) = some l' ∧ evE cf gc e l' h = .ok (.dat (f d)) h) : evE cf gc (.lc false p it .no e) l h = .ok (.dat (.list (items.map f))) h := by
  rw [ev_lcF (fun _ => true) f hI hz fun d hm => ?_]
  · rw [List.filter_eq_self.mpr fun _ _ => rfl]
  · obtain ⟨l', h1, h2⟩ := hd d hm
    exact ⟨l', h1, by rw [evC], fun _ => h2⟩
/-- a loop, by an invariant of what is left -/
theorem forRun_rule {p : Pt} {items0 : List PD} {b : Loc → Hd → Out} (I : List PD → Loc → Hd → Prop) (Q : Out → Prop) (h0 : ∀ l h, I [] l h → Q (.nx l h))
    (hs : ∀ d r l h, I (d :: r) l h → ∃ l1, bindP p d l = some l1 ∧ ((∃ l2 h2, b l1 h = .nx l2 h2 ∧ I r l2 h2) ∨ (∃ l2 h2, b l1 h = .ct l2 h2 ∧ I r l2 h2) ∨ (∃ l2 h2, b l1 h = .bk l2 h2 ∧ Q (.nx l2 h2)) ∨ (∃ d2 h2, b l1 h = .rt d2 h2 ∧ Q (.rt d2 h2)))) :
    ∀ (items : List PD) (l : Loc) (h : Hd), I items l h → Q (forRun p ⟨items0, none⟩ b items l h)
  | [], l, h, hi => by
    unfold forRun
    rw [if_pos (stays_none items0 h)]
    exact h0 l h hi
  | d :: r, l, h, hi => by
    obtain ⟨l1, h1, h2⟩ := hs d r l h hi
    unfold forRun
    rw [if_pos (stays_none items0 h), h1]
    dsimp only
    rcases h2 with ⟨l2, h2, e, hr⟩ | ⟨l2, h2, e, hr⟩ | ⟨l2, h2, e, hr⟩ | ⟨d2, h2, e, hr⟩
    · rw [e]; exact forRun_rule I Q h0 hs r l2 h2 hr
    · rw [e]; exact forRun_rule I Q h0 hs r l2 h2 hr
    · rw [e]; exact hr
    · rw [e]; exact hr
/-! ### comparisons -/
theorem eqv_nil {ds : List PD} : PyData.eqv (.tuple ds) (.tuple []) = ds.isEmpty := by
  cases ds <;> simp [PyData.eqv, PyData.eqvAll]
theorem eqv_nilL {ds : List PD} : PyData.eqv (.list ds) (.list []) = ds.isEmpty := by
  cases ds <;> simp [PyData.eqv, PyData.eqvAll]
theorem neP_nil (ds : List PD) : neP (.tuple ds) (.tuple []) = some (.bool (!ds.isEmpty)) := by
  unfold neP
  rw [eqv_nil]
  split
  · rfl
  · rename_i hz
    cases ds with
    | nil => exact absurd (by decide +kernel) hz
    | cons d r => rfl
theorem eqP_nil (ds : List PD) : eqP (.tuple ds) (.tuple []) = some (.bool ds.isEmpty) := by
  unfold eqP
  rw [eqv_nil]
  split
  · rfl
  · rename_i hz
    cases ds with
    | nil => exact absurd (by decide +kernel) hz
    | cons d r => rfl
theorem eqP_nilL (ds : List PD) : eqP (.list ds) (.list []) = some (.bool ds.isEmpty) := by
  unfold eqP
  rw [eqv_nilL]
  split
  · rfl
  · rename_i hz
    cases ds with
    | nil => exact absurd (by decide +kernel) hz
    | cons d r => rfl
end Mi

/-! Mi: expressions of constants alone, computed. -/
namespace Mi
open PySem
section
variable (gc : Str → Option PD)
mutual
def cvE : E → Option PD
  | .con d => some d
  | .glo x => gc x
  | .neg a => match cvE a with
    | some (.int i) => some (.int (-i))
    | _ => none
  | .bin op a b => match cvE a, cvE b with
    | some p, some q => binP op p q
    | _, _ => none
  | .tup es => match cvEs es with
    | some ps => if ps.length ≤ sizeLine then some (.tuple ps) else none
    | none => none
  | .lst false es => match cvEs es with
    | some ps => if ps.length ≤ sizeLine then some (.list ps) else none
    | none => none
  | .dnil => some (.dict [])
  | _ => none
def cvEs : Es → Option (List PD)
  | .nil => some []
  | .cons e r => match cvE e, cvEs r with
    | some p, some ps => some (p :: ps)
    | _, _ => none
end
end
theorem dats_map : ∀ ps : List PD, datsOf (ps.map .dat) = some ps
  | [] => rfl
  | p :: r => by simp [datsOf, dats_map r]
section
variable {cf : Str → List D → Hd → Res D} {gc : Str → Option PD}
mutual
theorem cv_ok : ∀ (e : E) {d : PD} (l : Loc) (h : Hd), cvE gc e = some d → evE cf gc e l h = .ok (.dat d) h
  | .con x, d, l, h, q => by
    simp only [cvE, Option.some.injEq] at q
    subst q
    rw [evE]
  | .glo x, d, l, h, q => by
    simp only [cvE] at q
    rw [evE, q]
    rfl
  | .neg a, d, l, h, q => by
    simp only [cvE] at q
    split at q
    · rename_i i ea
      cases q
      rw [evE, cv_ok a l h ea]
      rfl
    · cases q
  | .bin op a b, d, l, h, q => by
    simp only [cvE] at q
    split at q
    · rename_i x y ea eb
      rw [evE, cv_ok a l h ea, bind_ok, cv_ok b l h eb, bind_ok]
      show ofO h (binP op x y) = _
      rw [q]
      rfl
    · cases q
  | .tup es, d, l, h, q => by
    simp only [cvE] at q
    split at q
    · rename_i ps es'
      split at q
      · rename_i hz
        cases q
        rw [evE, cvs_ok es l h es', bind_ok, dats_map]
        dsimp only
        rw [if_pos hz]
      · cases q
    · cases q
  | .lst false es, d, l, h, q => by
    simp only [cvE] at q
    split at q
    · rename_i ps es'
      split at q
      · rename_i hz
        cases q
        rw [evE, cvs_ok es l h es', bind_ok, dats_map]
        dsimp only
        rw [if_pos hz]
        rfl
      · cases q
    · cases q
  | .dnil, d, l, h, q => by
    simp only [cvE, Option.some.injEq] at q
    subst q
    rw [evE]
  | .lst true _, _, _, _, q => by simp [cvE] at q
  | .var _, _, _, _, q => by simp [cvE] at q
  | .cmp _ _ _, _, _, _, q => by simp [cvE] at q
  | .cmp2 _ _ _ _ _, _, _, _, q => by simp [cvE] at q
  | .boo _ _, _, _, _, q => by simp [cvE] at q
  | .nt _, _, _, _, q => by simp [cvE] at q
  | .ife _ _ _, _, _, _, q => by simp [cvE] at q
  | .ix _ _, _, _, _, q => by simp [cvE] at q
  | .sl _ _ _ _, _, _, _, q => by simp [cvE] at q
  | .call _ _, _, _, _, q => by simp [cvE] at q
  | .blt _ _, _, _, _, q => by simp [cvE] at q
  | .lis _ _, _, _, _, q => by simp [cvE] at q
  | .isi _ _, _, _, _, q => by simp [cvE] at q
  | .mth _ _ _, _, _, _, q => by simp [cvE] at q
  | .lc _ _ _ _ _, _, _, _, q => by simp [cvE] at q
theorem cvs_ok : ∀ (es : Es) {ps : List PD} (l : Loc) (h : Hd), cvEs gc es = some ps → evEs cf gc es l h = .ok (ps.map .dat) h
  | .nil, ps, l, h, q => by
    simp only [cvEs, Option.some.injEq] at q
    subst q
    rw [evEs]
    rfl
  | .cons e r, ps, l, h, q => by
    simp only [cvEs] at q
    split at q
    · rename_i x xs ea eb
      cases q
      rw [evEs, cv_ok e l h ea, bind_ok, cvs_ok r l h eb]
      rfl
    · cases q
end
end
end Mi

namespace K17
open PySem PySem.Spec PyProof.Rows L2 Mi
/-! the text and its instructions (printed by gen.py) -/
def topS (i : Nat) : Stmt := PySem.Challenge.pw_sharedlets_k17_forms_of_addresses.main.body.getD i (.Pass ⟨0, 0, 0, 0⟩)
def fsL : List Str := ["is_integer", "is_between", "is_piece", "is_element", "is_address", "require_address", "steps_of", "length_in", "plain_in", "cut_in", "length_of", "plain", "cut", "_law_stream", "_law_draw", "_law_pick", "_law_address", "_law_length", "_law_rows", "_law_is_whole", "_law_is_element", "_law_is_address", "_law_odd_element", "_law_near_address", "_law_cut", "_law_cuts_right", "_law_long", "_law_right", "law"]
def fs (x : Str) : Bool := fsL.contains x
def gcL : List (Str × PD) := [("MAX_TIMES", (.int 1000000000000000000000000000000)), ("MAX_STEPS", (.int 1000)), ("LAST_CHILD", (.int 2))]
def gc (x : Str) : Option PD := gcL.lookup x
def cs (x : Str) : Bool := (gc x).isSome
def xsL : List (Str × Str) := [("TooMany", "limit")]
def xs (x : Str) : Option Str := xsL.lookup x
abbrev s_is_integer : Stmt := topS 6
def N_is_integer : List Str := ["value"]
def b_is_integer : Ss :=
    (.cons (.ret (.boo true (.cons (.isi (.var 0) .int) (.cons (.nt (.isi (.var 0) .bool)) .nil))))
    .nil)
def d_is_integer : Def := ⟨1, 1, false, b_is_integer⟩
abbrev s_is_between : Stmt := topS 7
def N_is_between : List Str := ["value", "low", "high"]
def b_is_between : Ss :=
    (.cons (.ret (.boo true (.cons (.call "is_integer" (.cons (.var 0) .nil)) (.cons (.cmp2 .LtE .LtE (.var 1) (.var 0) (.var 2)) .nil))))
    .nil)
def d_is_between : Def := ⟨3, 3, false, b_is_between⟩
abbrev s_is_piece : Stmt := topS 12
def N_is_piece : List Str := ["value", "one"]
def y0_is_piece : E :=
    (.call "is_between" (.cons (.var 1) (.cons (.con (.int 0)) (.cons (.glo "LAST_CHILD") .nil))))
def q0_is_piece : E :=
    (.lc false (.nm 1) (.seq (.var 0)) .no y0_is_piece)
def b_is_piece : Ss :=
    (.cons (.ret (.boo true (.cons (.isi (.var 0) .tuple) (.cons (.cmp .NotEq (.var 0) (.tup .nil)) (.cons (.blt .all (.cons q0_is_piece .nil)) .nil)))))
    .nil)
def d_is_piece : Def := ⟨2, 1, false, b_is_piece⟩
abbrev s_is_element : Stmt := topS 13
def N_is_element : List Str := ["value"]
def b_is_element : Ss :=
    (.cons (.ifs (.nt (.isi (.var 0) .tuple))
    (.cons (.ret (.call "is_between" (.cons (.var 0) (.cons (.con (.int 0)) (.cons (.glo "LAST_CHILD") .nil)))))
    .nil)
    .nil)
    (.cons (.ret (.boo true (.cons (.cmp .Eq (.blt .len (.cons (.var 0) .nil)) (.con (.int 2))) (.cons (.call "is_piece" (.cons (.ix (.var 0) (.con (.int 0))) .nil)) (.cons (.call "is_between" (.cons (.ix (.var 0) (.con (.int 1))) (.cons (.con (.int 0)) (.cons (.glo "MAX_TIMES") .nil)))) .nil)))))
    .nil))
def d_is_element : Def := ⟨1, 1, false, b_is_element⟩
abbrev s_is_address : Stmt := topS 14
def N_is_address : List Str := ["value", "element"]
def y0_is_address : E :=
    (.call "is_element" (.cons (.var 1) .nil))
def q0_is_address : E :=
    (.lc false (.nm 1) (.seq (.var 0)) .no y0_is_address)
def b_is_address : Ss :=
    (.cons (.ret (.boo true (.cons (.isi (.var 0) .tuple) (.cons (.blt .all (.cons q0_is_address .nil)) .nil))))
    .nil)
def d_is_address : Def := ⟨2, 1, false, b_is_address⟩
abbrev s_require_address : Stmt := topS 15
def N_require_address : List Str := ["value"]
def b_require_address : Ss :=
    (.cons (.ifs (.nt (.call "is_address" (.cons (.var 0) .nil)))
    (.cons .stop
    .nil)
    .nil)
    .nil)
def d_require_address : Def := ⟨1, 1, false, b_require_address⟩
abbrev s_steps_of : Stmt := topS 16
def N_steps_of : List Str := ["element"]
def b_steps_of : Ss :=
    (.cons (.ret (.ife (.isi (.var 0) .tuple) (.bin .Mult (.blt .len (.cons (.ix (.var 0) (.con (.int 0))) .nil)) (.ix (.var 0) (.con (.int 1)))) (.con (.int 1))))
    .nil)
def d_steps_of : Def := ⟨1, 1, false, b_steps_of⟩
abbrev s_length_in : Stmt := topS 17
def N_length_in : List Str := ["address", "element"]
def y0_length_in : E :=
    (.call "steps_of" (.cons (.var 1) .nil))
def q0_length_in : E :=
    (.lc false (.nm 1) (.seq (.var 0)) .no y0_length_in)
def b_length_in : Ss :=
    (.cons (.ret (.blt .sum (.cons q0_length_in .nil)))
    .nil)
def d_length_in : Def := ⟨2, 1, false, b_length_in⟩
abbrev s_plain_in : Stmt := topS 18
def N_plain_in : List Str := ["address", "found", "element"]
def w0_plain_in : Ss :=
    (.cons (.exp (.mth .extend (.var 1) (.cons (.ife (.isi (.var 2) .tuple) (.bin .Mult (.ix (.var 2) (.con (.int 0))) (.ix (.var 2) (.con (.int 1)))) (.tup (.cons (.var 2) .nil))) .nil)))
    .nil)
def f0_plain_in : S :=
    (.for (.nm 2) (.seq (.var 0)) w0_plain_in)
def b_plain_in : Ss :=
    (.cons (.asg (.nm 1) (.lst true .nil))
    (.cons f0_plain_in
    (.cons (.ret (.blt .tuple (.cons (.var 1) .nil)))
    .nil)))
def d_plain_in : Def := ⟨3, 1, false, b_plain_in⟩
abbrev s_cut_in : Stmt := topS 19
def N_cut_in : List Str := ["address", "length", "element", "found", "left", "piece"]
def w0_cut_in : Ss :=
    (.cons (.ifs (.cmp .Eq (.var 4) (.con (.int 0)))
    (.cons .brk
    .nil)
    .nil)
    (.cons (.ifs (.cmp .LtE (.call "steps_of" (.cons (.var 2) .nil)) (.var 4))
    (.cons (.exp (.mth .append (.var 3) (.cons (.var 2) .nil)))
    (.cons (.aug .Sub 4 (.call "steps_of" (.cons (.var 2) .nil)))
    .nil))
    (.cons (.asg (.nm 5) (.ix (.var 2) (.con (.int 0))))
    (.cons (.ifs (.cmp .GtE (.var 4) (.blt .len (.cons (.var 5) .nil)))
    (.cons (.exp (.mth .append (.var 3) (.cons (.tup (.cons (.var 5) (.cons (.bin .FloorDiv (.var 4) (.blt .len (.cons (.var 5) .nil))) .nil))) .nil)))
    .nil)
    .nil)
    (.cons (.exp (.mth .extend (.var 3) (.cons (.sl false (.var 5) .no (.yes (.bin .Mod (.var 4) (.blt .len (.cons (.var 5) .nil))))) .nil)))
    (.cons (.asg (.nm 4) (.con (.int 0)))
    .nil)))))
    .nil))
def f0_cut_in : S :=
    (.for (.nm 2) (.seq (.var 0)) w0_cut_in)
def b_cut_in : Ss :=
    (.cons (.par [3, 4] (.cons (.lst true .nil) (.cons (.var 1) .nil)))
    (.cons f0_cut_in
    (.cons (.ret (.blt .tuple (.cons (.var 3) .nil)))
    .nil)))
def d_cut_in : Def := ⟨6, 2, false, b_cut_in⟩
abbrev s_length_of : Stmt := topS 20
def N_length_of : List Str := ["address"]
def b_length_of : Ss :=
    (.cons (.exp (.call "require_address" (.cons (.var 0) .nil)))
    (.cons (.ret (.call "length_in" (.cons (.var 0) .nil)))
    .nil))
def d_length_of : Def := ⟨1, 1, false, b_length_of⟩
abbrev s_plain : Stmt := topS 21
def N_plain : List Str := ["address"]
def b_plain : Ss :=
    (.cons (.exp (.call "require_address" (.cons (.var 0) .nil)))
    (.cons (.ifs (.cmp .Gt (.call "length_in" (.cons (.var 0) .nil)) (.glo "MAX_STEPS"))
    (.cons (.rse "TooMany" "limit" (.glo "MAX_STEPS"))
    .nil)
    .nil)
    (.cons (.ret (.call "plain_in" (.cons (.var 0) .nil)))
    .nil)))
def d_plain : Def := ⟨1, 1, false, b_plain⟩
abbrev s_cut : Stmt := topS 22
def N_cut : List Str := ["address", "length"]
def b_cut : Ss :=
    (.cons (.exp (.call "require_address" (.cons (.var 0) .nil)))
    (.cons (.ifs (.nt (.call "is_between" (.cons (.var 1) (.cons (.con (.int 0)) (.cons (.call "length_in" (.cons (.var 0) .nil)) .nil)))))
    (.cons .stop
    .nil)
    .nil)
    (.cons (.ret (.call "cut_in" (.cons (.var 0) (.cons (.var 1) .nil))))
    .nil)))
def d_cut : Def := ⟨2, 2, false, b_cut⟩
abbrev s__law_stream : Stmt := topS 24
def N__law_stream : List Str := ["_law_script", "_law_at", "_law_cell", "_law_great", "_law_mixed"]
def b__law_stream : Ss :=
    (.cons (.asg (.nm 2) (.bin .Add (.bin .Mult (.con (.int 19)) (.var 1)) (.con (.int 5))))
    (.cons (.ifs (.cmp .Lt (.var 1) (.blt .len (.cons (.var 0) .nil)))
    (.cons (.asg (.nm 2) (.ix (.var 0) (.var 1)))
    .nil)
    .nil)
    (.cons (.asg (.nm 3) (.bin .Mod (.blt .int (.cons (.blt .abs (.cons (.var 2) .nil)) .nil)) (.bin .Pow (.bin .Pow (.con (.int 10)) (.con (.int 60))) (.con (.int 10)))))
    (.cons (.asg (.nm 4) (.bin .Add (.bin .Add (.bin .Add (.bin .Mult (.bin .Mod (.blt .int (.cons (.var 3) .nil)) (.con (.int 2147483423))) (.con (.int 45121))) (.bin .Mult (.con (.int 2017)) (.var 1))) (.bin .Mult (.con (.int 5)) (.blt .int (.cons (.cmp .Lt (.var 2) (.con (.int 0))) .nil)))) (.con (.int 23))))
    (.cons (.ret (.lst true (.cons (.blt .max (.cons (.con (.int 0)) (.cons (.bin .Sub (.var 3) (.bin .Pow (.con (.int 10)) (.con (.int 18)))) .nil))) (.cons (.bin .Mod (.blt .int (.cons (.var 4) .nil)) (.con (.int 2147483399))) (.cons (.con (.int 0)) .nil)))))
    .nil)))))
def d__law_stream : Def := ⟨5, 2, true, b__law_stream⟩
abbrev s__law_draw : Stmt := topS 25
def N__law_draw : List Str := ["_law_stream_here", "_law_high", "_law_one", "_law_two", "_law_found"]
def b__law_draw : Ss :=
    (.cons (.ifs (.cmp .Gt (.ix (.var 0) (.con (.int 0))) (.con (.int 0)))
    (.cons (.asg (.nm 4) (.bin .Mod (.blt .int (.cons (.ix (.var 0) (.con (.int 0))) .nil)) (.var 1)))
    (.cons (.put (.var 0) (.con (.int 0)) (.bin .FloorDiv (.ix (.var 0) (.con (.int 0))) (.var 1)))
    (.cons (.ret (.var 4))
    .nil)))
    .nil)
    (.cons (.put (.var 0) (.con (.int 2)) (.bin .Add (.ix (.var 0) (.con (.int 2))) (.con (.int 1))))
    (.cons (.asg (.nm 2) (.bin .Mod (.blt .int (.cons (.bin .Add (.ix (.var 0) (.con (.int 1))) (.bin .Mult (.con (.int 1000303)) (.ix (.var 0) (.con (.int 2))))) .nil)) (.con (.int 2305843009213693951))))
    (.cons (.asg (.nm 3) (.bin .Add (.bin .Mult (.bin .Mod (.blt .int (.cons (.bin .Mult (.var 2) (.var 2)) .nil)) (.con (.int 2305843009213693921))) (.var 2)) (.bin .Mult (.con (.int 6911)) (.ix (.var 0) (.con (.int 2))))))
    (.cons (.asg (.nm 3) (.bin .Mod (.blt .int (.cons (.var 3) .nil)) (.con (.int 2305843009213693907))))
    (.cons (.ret (.bin .Mod (.blt .int (.cons (.bin .FloorDiv (.var 3) (.con (.int 8192))) .nil)) (.var 1)))
    .nil))))))
def d__law_draw : Def := ⟨5, 2, false, b__law_draw⟩
abbrev s__law_pick : Stmt := topS 26
def N__law_pick : List Str := ["_law_stream_here", "_law_items"]
def b__law_pick : Ss :=
    (.cons (.ret (.ix (.var 1) (.call "_law_draw" (.cons (.var 0) (.cons (.blt .len (.cons (.var 1) .nil)) .nil)))))
    .nil)
def d__law_pick : Def := ⟨2, 2, false, b__law_pick⟩
abbrev s__law_address : Stmt := topS 27
def N__law_address : List Str := ["_law_stream_here", "_law_much", "_law_far", "_law_found", "_law_turn", "_law_piece", "_law_spot"]
def y0__law_address : E :=
    (.call "_law_draw" (.cons (.var 0) (.cons (.con (.int 3)) .nil)))
def q0__law_address : E :=
    (.lc false (.nm 6) (.rng (.cons (.bin .Add (.con (.int 1)) (.call "_law_draw" (.cons (.var 0) (.cons (.con (.int 3)) .nil)))) .nil)) .no y0__law_address)
def w2__law_address : Ss :=
    (.cons (.ifs (.cmp .Eq (.call "_law_draw" (.cons (.var 0) (.cons (.con (.int 2)) .nil))) (.con (.int 0)))
    (.cons (.exp (.mth .append (.var 3) (.cons (.call "_law_draw" (.cons (.var 0) (.cons (.con (.int 3)) .nil))) .nil)))
    .nil)
    (.cons (.asg (.nm 5) (.blt .tuple (.cons q0__law_address .nil)))
    (.cons (.exp (.mth .append (.var 3) (.cons (.tup (.cons (.var 5) (.cons (.call "_law_pick" (.cons (.var 0) (.cons (.lst false (.cons (.con (.int 0)) (.cons (.con (.int 1)) (.cons (.con (.int 2)) (.cons (.con (.int 3)) (.cons (.var 2) .nil)))))) .nil))) .nil))) .nil)))
    .nil)))
    .nil)
def f2__law_address : S :=
    (.for (.nm 4) (.rng (.cons (.call "_law_draw" (.cons (.var 0) (.cons (.bin .Add (.var 1) (.con (.int 1))) .nil))) .nil)) w2__law_address)
def b__law_address : Ss :=
    (.cons (.asg (.nm 3) (.lst true .nil))
    (.cons f2__law_address
    (.cons (.ret (.blt .tuple (.cons (.var 3) .nil)))
    .nil)))
def d__law_address : Def := ⟨7, 3, false, b__law_address⟩
abbrev s__law_length : Stmt := topS 28
def N__law_length : List Str := ["_law_address_here", "_law_one"]
def y0__law_length : E :=
    (.ife (.isi (.var 1) .tuple) (.bin .Mult (.blt .len (.cons (.ix (.var 1) (.con (.int 0))) .nil)) (.ix (.var 1) (.con (.int 1)))) (.con (.int 1)))
def q0__law_length : E :=
    (.lc false (.nm 1) (.seq (.var 0)) .no y0__law_length)
def b__law_length : Ss :=
    (.cons (.ret (.blt .sum (.cons q0__law_length .nil)))
    .nil)
def d__law_length : Def := ⟨2, 1, false, b__law_length⟩
abbrev s__law_rows : Stmt := topS 29
def N__law_rows : List Str := ["_law_address_here", "_law_found", "_law_one"]
def w0__law_rows : Ss :=
    (.cons (.exp (.mth .extend (.var 1) (.cons (.ife (.isi (.var 2) .tuple) (.bin .Mult (.lis false (.ix (.var 2) (.con (.int 0)))) (.ix (.var 2) (.con (.int 1)))) (.lst false (.cons (.var 2) .nil))) .nil)))
    .nil)
def f0__law_rows : S :=
    (.for (.nm 2) (.seq (.var 0)) w0__law_rows)
def b__law_rows : Ss :=
    (.cons (.asg (.nm 1) (.lst true .nil))
    (.cons f0__law_rows
    (.cons (.ret (.blt .tuple (.cons (.var 1) .nil)))
    .nil)))
def d__law_rows : Def := ⟨3, 1, false, b__law_rows⟩
abbrev s__law_is_whole : Stmt := topS 30
def N__law_is_whole : List Str := ["_law_value", "_law_low", "_law_high"]
def b__law_is_whole : Ss :=
    (.cons (.ret (.boo true (.cons (.isi (.var 0) .int) (.cons (.nt (.isi (.var 0) .bool)) (.cons (.cmp2 .LtE .LtE (.var 1) (.var 0) (.var 2)) .nil)))))
    .nil)
def d__law_is_whole : Def := ⟨3, 3, false, b__law_is_whole⟩
abbrev s__law_is_element : Stmt := topS 31
def N__law_is_element : List Str := ["_law_value", "_law_one"]
def y0__law_is_element : E :=
    (.var 1)
def z0__law_is_element : Eo :=
    (.yes (.nt (.call "_law_is_whole" (.cons (.var 1) (.cons (.con (.int 0)) (.cons (.con (.int 2)) .nil))))))
def q0__law_is_element : E :=
    (.lc false (.nm 1) (.seq (.ix (.var 0) (.con (.int 0)))) z0__law_is_element y0__law_is_element)
def b__law_is_element : Ss :=
    (.cons (.ifs (.nt (.isi (.var 0) .tuple))
    (.cons (.ret (.call "_law_is_whole" (.cons (.var 0) (.cons (.con (.int 0)) (.cons (.con (.int 2)) .nil)))))
    .nil)
    .nil)
    (.cons (.ifs (.boo false (.cons (.cmp .NotEq (.blt .len (.cons (.var 0) .nil)) (.con (.int 2))) (.cons (.nt (.isi (.ix (.var 0) (.con (.int 0))) .tuple)) (.cons (.cmp .Eq (.ix (.var 0) (.con (.int 0))) (.tup .nil)) .nil))))
    (.cons (.ret (.con (.bool false)))
    .nil)
    .nil)
    (.cons (.ret (.boo true (.cons (.cmp .Eq q0__law_is_element (.lst false .nil)) (.cons (.call "_law_is_whole" (.cons (.ix (.var 0) (.con (.int 1))) (.cons (.con (.int 0)) (.cons (.bin .Pow (.con (.int 10)) (.con (.int 30))) .nil)))) .nil))))
    .nil)))
def d__law_is_element : Def := ⟨2, 1, false, b__law_is_element⟩
abbrev s__law_is_address : Stmt := topS 32
def N__law_is_address : List Str := ["_law_value", "_law_one"]
def y0__law_is_address : E :=
    (.var 1)
def z0__law_is_address : Eo :=
    (.yes (.nt (.call "_law_is_element" (.cons (.var 1) .nil))))
def q0__law_is_address : E :=
    (.lc false (.nm 1) (.seq (.var 0)) z0__law_is_address y0__law_is_address)
def b__law_is_address : Ss :=
    (.cons (.ret (.boo true (.cons (.isi (.var 0) .tuple) (.cons (.cmp .Eq q0__law_is_address (.lst false .nil)) .nil))))
    .nil)
def d__law_is_address : Def := ⟨2, 1, false, b__law_is_address⟩
abbrev s__law_odd_element : Stmt := topS 33
def N__law_odd_element : List Str := ["_law_stream_here", "_law_some"]
def b__law_odd_element : Ss :=
    (.cons (.asg (.nm 1) (.lst false (.cons (.con (.int 0)) (.cons (.con (.int 2)) (.cons (.con (.int 3)) (.cons (.neg (.con (.int 1))) (.cons (.con (.bool true)) (.cons (.con .none) (.cons (.con (.str "0")) (.cons (.tup .nil) (.cons (.lst false (.cons (.con (.int 0)) .nil)) (.cons .dnil (.cons (.tup (.cons (.tup .nil) (.cons (.con (.int 1)) .nil))) (.cons (.tup (.cons (.tup (.cons (.con (.int 0)) .nil)) (.cons (.neg (.con (.int 1))) .nil))) (.cons (.tup (.cons (.tup (.cons (.con (.int 0)) .nil)) (.cons (.bin .Add (.bin .Pow (.con (.int 10)) (.con (.int 30))) (.con (.int 1))) .nil))) (.cons (.tup (.cons (.tup (.cons (.con (.int 0)) .nil)) (.cons (.con (.bool true)) .nil))) (.cons (.tup (.cons (.tup (.cons (.con (.int 0)) .nil)) .nil)) .nil)))))))))))))))))
    (.cons (.asg (.nm 1) (.bin .Add (.var 1) (.lst false (.cons (.tup (.cons (.lst false (.cons (.con (.int 0)) .nil)) (.cons (.con (.int 1)) .nil))) (.cons (.tup (.cons (.tup (.cons (.con (.int 0)) (.cons (.con (.int 3)) .nil))) (.cons (.con (.int 1)) .nil))) (.cons (.tup (.cons (.tup (.cons (.con (.int 0)) .nil)) (.cons (.con (.int 1)) (.cons (.con (.int 1)) .nil)))) (.cons (.tup (.cons (.con (.int 0)) (.cons (.con (.int 1)) .nil))) (.cons (.tup (.cons (.tup (.cons (.con (.int 0)) (.cons (.con (.bool true)) .nil))) (.cons (.con (.int 1)) .nil))) (.cons (.tup (.cons (.tup (.cons (.con (.int 0)) .nil)) (.cons (.con .none) .nil))) (.cons (.tup (.cons (.tup (.cons (.con (.int 0)) .nil)) (.cons (.bin .Pow (.con (.int 10)) (.con (.int 30))) .nil))) (.cons (.tup (.cons (.con (.int 1)) (.cons (.con (.int 2)) .nil))) .nil)))))))))))
    (.cons (.ret (.call "_law_pick" (.cons (.var 0) (.cons (.bin .Add (.var 1) (.lst false (.cons (.tup (.cons (.tup (.cons (.con (.int 0)) (.cons (.lst false (.cons (.con (.int 1)) .nil)) .nil))) (.cons (.con (.int 2)) .nil))) (.cons (.tup (.cons (.tup (.cons (.tup (.cons (.con (.int 0)) .nil)) (.cons (.con (.int 1)) .nil))) (.cons (.con (.int 2)) .nil))) (.cons (.tup (.cons (.tup (.cons (.con (.int 0)) .nil)) (.cons (.con (.str "2")) .nil))) (.cons (.tup (.cons (.tup (.cons (.con (.int 2)) (.cons (.con (.int 2)) .nil))) (.cons (.con (.int 0)) .nil))) (.cons (.bin .Pow (.con (.int 10)) (.con (.int 39))) (.cons (.tup (.cons (.tup (.cons (.con (.int 0)) .nil)) (.cons (.tup (.cons (.con (.int 1)) .nil)) .nil))) .nil)))))))) .nil))))
    .nil)))
def d__law_odd_element : Def := ⟨2, 1, false, b__law_odd_element⟩
abbrev s__law_near_address : Stmt := topS 34
def N__law_near_address : List Str := ["_law_stream_here", "_law_address_here", "_law_some", "_law_at", "_law_odd"]
def b__law_near_address : Ss :=
    (.cons (.par [3, 4] (.cons (.call "_law_draw" (.cons (.var 0) (.cons (.bin .Add (.blt .len (.cons (.var 1) .nil)) (.con (.int 1))) .nil))) (.cons (.call "_law_odd_element" (.cons (.var 0) .nil)) .nil)))
    (.cons (.asg (.nm 2) (.lst false (.cons (.lis false (.var 1)) (.cons (.con .none) (.cons (.con (.int 0)) (.cons (.con (.str "")) (.cons .dnil (.cons (.bin .Add (.var 1) (.tup (.cons (.var 4) .nil))) (.cons (.bin .Add (.bin .Add (.sl false (.var 1) .no (.yes (.var 3))) (.tup (.cons (.var 4) .nil))) (.sl false (.var 1) (.yes (.var 3)) .no)) (.cons (.tup (.cons (.var 1) .nil)) (.cons (.con (.bool true)) .nil)))))))))))
    (.cons (.ret (.call "_law_pick" (.cons (.var 0) (.cons (.bin .Add (.var 2) (.bin .Mult (.lst false (.cons (.bin .Add (.bin .Add (.sl false (.var 1) .no (.yes (.var 3))) (.tup (.cons (.var 4) .nil))) (.sl false (.var 1) (.yes (.bin .Add (.var 3) (.con (.int 1)))) .no)) .nil)) (.con (.int 4)))) .nil))))
    .nil)))
def d__law_near_address : Def := ⟨5, 2, false, b__law_near_address⟩
abbrev s__law_cut : Stmt := topS 35
def N__law_cut : List Str := ["_law_address_here", "_law_far", "_law_one", "_law_found", "_law_left", "_law_much", "_law_piece"]
def w0__law_cut : Ss :=
    (.cons (.asg (.nm 5) (.call "_law_length" (.cons (.tup (.cons (.var 2) .nil)) .nil)))
    (.cons (.ifs (.boo true (.cons (.cmp .Gt (.var 4) (.con (.int 0))) (.cons (.cmp .LtE (.var 5) (.var 4)) .nil)))
    (.cons (.asg (.nm 3) (.bin .Add (.var 3) (.tup (.cons (.var 2) .nil))))
    .nil)
    (.cons (.ifs (.cmp .Gt (.var 4) (.con (.int 0)))
    (.cons (.asg (.nm 6) (.ix (.var 2) (.con (.int 0))))
    (.cons (.asg (.nm 3) (.bin .Add (.var 3) (.ife (.cmp .GtE (.var 4) (.blt .len (.cons (.var 6) .nil))) (.tup (.cons (.tup (.cons (.var 6) (.cons (.bin .FloorDiv (.var 4) (.blt .len (.cons (.var 6) .nil))) .nil))) .nil)) (.tup .nil))))
    (.cons (.asg (.nm 3) (.bin .Add (.var 3) (.sl false (.var 6) .no (.yes (.bin .Sub (.var 4) (.bin .Mult (.bin .FloorDiv (.var 4) (.blt .len (.cons (.var 6) .nil))) (.blt .len (.cons (.var 6) .nil))))))))
    .nil)))
    .nil)
    .nil))
    (.cons (.asg (.nm 4) (.blt .max (.cons (.con (.int 0)) (.cons (.bin .Sub (.var 4) (.var 5)) .nil))))
    .nil)))
def f0__law_cut : S :=
    (.for (.nm 2) (.seq (.var 0)) w0__law_cut)
def b__law_cut : Ss :=
    (.cons (.par [3, 4] (.cons (.tup .nil) (.cons (.var 1) .nil)))
    (.cons f0__law_cut
    (.cons (.ret (.var 3))
    .nil)))
def d__law_cut : Def := ⟨7, 2, false, b__law_cut⟩
abbrev s__law_cuts_right : Stmt := topS 36
def N__law_cuts_right : List Str := ["_law_stream_here", "_law_address_here", "_law_whole", "_law_some", "_law_far", "_law_found", "_law_turn"]
def y0__law_cuts_right : E :=
    (.call "_law_draw" (.cons (.var 0) (.cons (.bin .Add (.var 2) (.con (.int 1))) .nil)))
def q0__law_cuts_right : E :=
    (.lc false (.nm 6) (.rng (.cons (.con (.int 3)) .nil)) .no y0__law_cuts_right)
def w2__law_cuts_right : Ss :=
    (.cons (.asg (.nm 5) (.call "cut" (.cons (.var 1) (.cons (.var 4) .nil))))
    (.cons (.ifs (.boo false (.cons (.cmp .NotEq (.blt .repr (.cons (.var 5) .nil)) (.blt .repr (.cons (.call "_law_cut" (.cons (.var 1) (.cons (.var 4) .nil))) .nil))) (.cons (.cmp .NotEq (.call "length_of" (.cons (.var 5) .nil)) (.var 4)) (.cons (.cmp .IsNot (.call "is_address" (.cons (.var 5) .nil)) (.con (.bool true))) .nil))))
    (.cons (.ret (.con (.bool false)))
    .nil)
    .nil)
    (.cons (.ifs (.boo true (.cons (.cmp .Lt (.var 4) (.con (.int 40))) (.cons (.cmp .NotEq (.call "plain" (.cons (.var 5) .nil)) (.sl false (.call "plain" (.cons (.call "cut" (.cons (.var 1) (.cons (.blt .min (.cons (.var 2) (.cons (.con (.int 40)) .nil))) .nil))) .nil)) .no (.yes (.var 4)))) .nil)))
    (.cons (.ret (.con (.bool false)))
    .nil)
    .nil)
    .nil)))
def f2__law_cuts_right : S :=
    (.for (.nm 4) (.seq (.bin .Add (.var 3) q0__law_cuts_right)) w2__law_cuts_right)
def b__law_cuts_right : Ss :=
    (.cons (.asg (.nm 2) (.call "_law_length" (.cons (.var 1) .nil)))
    (.cons (.asg (.nm 3) (.lst false (.cons (.con (.int 0)) (.cons (.var 2) (.cons (.blt .max (.cons (.con (.int 0)) (.cons (.bin .Sub (.var 2) (.con (.int 1))) .nil))) (.cons (.bin .FloorDiv (.var 2) (.con (.int 2))) (.cons (.blt .min (.cons (.var 2) (.cons (.con (.int 1)) .nil))) (.cons (.blt .min (.cons (.var 2) (.cons (.bin .Pow (.con (.int 10)) (.con (.int 29))) .nil))) .nil))))))))
    (.cons f2__law_cuts_right
    (.cons (.ret (.con (.bool true)))
    .nil))))
def d__law_cuts_right : Def := ⟨7, 2, false, b__law_cuts_right⟩
abbrev s__law_long : Stmt := topS 37
def N__law_long : List Str := ["_law_address_here", "e"]
def b__law_long : Ss :=
    (.cons (.tri (.call "plain" (.cons (.var 0) .nil)) "TooMany" "limit" 1)
    .nil)
def d__law_long : Def := ⟨2, 1, false, b__law_long⟩
abbrev s__law_right : Stmt := topS 38
def N__law_right : List Str := ["_law_stream_here", "_law_address_here", "_law_whole", "_law_turn", "_law_value"]
def w0__law_right : Ss :=
    (.cons (.asg (.nm 4) (.call "_law_near_address" (.cons (.var 0) (.cons (.var 1) .nil))))
    (.cons (.ifs (.cmp .NotEq (.blt .repr (.cons (.call "is_address" (.cons (.var 4) .nil)) .nil)) (.blt .repr (.cons (.call "_law_is_address" (.cons (.var 4) .nil)) .nil)))
    (.cons (.ret (.con (.bool false)))
    .nil)
    .nil)
    .nil))
def f0__law_right : S :=
    (.for (.nm 3) (.rng (.cons (.con (.int 6)) .nil)) w0__law_right)
def b__law_right : Ss :=
    (.cons (.asg (.nm 1) (.call "_law_address" (.cons (.var 0) (.cons (.con (.int 5)) (.cons (.call "_law_pick" (.cons (.var 0) (.cons (.lst false (.cons (.con (.int 4)) (.cons (.bin .Pow (.con (.int 10)) (.con (.int 30))) (.cons (.con (.int 999)) (.cons (.bin .Sub (.bin .Pow (.con (.int 10)) (.con (.int 30))) (.con (.int 1))) .nil))))) .nil))) .nil)))))
    (.cons (.asg (.nm 2) (.call "_law_length" (.cons (.var 1) .nil)))
    (.cons (.ifs (.boo false (.cons (.cmp .IsNot (.call "is_address" (.cons (.var 1) .nil)) (.con (.bool true))) (.cons (.cmp .NotEq (.blt .repr (.cons (.call "length_of" (.cons (.var 1) .nil)) .nil)) (.blt .repr (.cons (.var 2) .nil))) .nil)))
    (.cons (.ret (.con (.bool false)))
    .nil)
    .nil)
    (.cons (.ifs (.cmp .NotEq (.call "_law_long" (.cons (.var 1) .nil)) (.ife (.cmp .LtE (.var 2) (.con (.int 1000))) (.call "_law_rows" (.cons (.var 1) .nil)) (.con (.int 1000))))
    (.cons (.ret (.con (.bool false)))
    .nil)
    .nil)
    (.cons f0__law_right
    (.cons (.ret (.call "_law_cuts_right" (.cons (.var 0) (.cons (.var 1) .nil))))
    .nil))))))
def d__law_right : Def := ⟨5, 1, false, b__law_right⟩
abbrev s_law : Stmt := topS 39
def N_law : List Str := ["_law_script", "_law_at", "_law_told", "_law_stream_here", "_law_turn"]
def w0_law : Ss :=
    (.cons (.ifs (.nt (.call "_law_right" (.cons (.var 3) .nil)))
    (.cons (.ret (.con (.bool false)))
    .nil)
    .nil)
    .nil)
def f0_law : S :=
    (.for (.nm 4) (.rng (.cons (.con (.int 4)) .nil)) w0_law)
def w2_law : Ss :=
    (.cons (.asg (.nm 3) (.call "_law_stream" (.cons (.var 0) (.cons (.var 1) .nil))))
    (.cons f0_law
    .nil))
def f2_law : S :=
    (.for (.nm 1) (.rng (.cons (.blt .max (.cons (.con (.int 1)) (.cons (.blt .min (.cons (.con (.int 6)) (.cons (.blt .len (.cons (.var 0) .nil)) .nil))) .nil))) .nil)) w2_law)
def b_law : Ss :=
    (.cons f2_law
    (.cons (.asg (.nm 2) (.lst true (.cons (.call "_law_long" (.cons (.tup (.cons (.tup (.cons (.tup (.cons (.con (.int 0)) (.cons (.con (.int 1)) .nil))) (.cons (.con (.int 500)) .nil))) .nil)) .nil)) (.cons (.call "_law_long" (.cons (.tup (.cons (.tup (.cons (.tup (.cons (.con (.int 0)) (.cons (.con (.int 1)) .nil))) (.cons (.con (.int 500)) .nil))) (.cons (.con (.int 2)) .nil))) .nil)) .nil))))
    (.cons (.exp (.mth .append (.var 2) (.cons (.call "length_of" (.cons (.tup (.cons (.tup (.cons (.tup (.cons (.con (.int 0)) (.cons (.con (.int 1)) (.cons (.con (.int 2)) .nil)))) (.cons (.bin .Pow (.con (.int 10)) (.con (.int 30))) .nil))) (.cons (.tup (.cons (.tup (.cons (.con (.int 0)) .nil)) (.cons (.con (.int 0)) .nil))) (.cons (.con (.int 1)) .nil)))) .nil)) .nil)))
    (.cons (.ifs (.boo false (.cons (.cmp .NotEq (.var 2) (.lst false (.cons (.bin .Mult (.tup (.cons (.con (.int 0)) (.cons (.con (.int 1)) .nil))) (.con (.int 500))) (.cons (.con (.int 1000)) (.cons (.bin .Add (.bin .Mult (.con (.int 3)) (.bin .Pow (.con (.int 10)) (.con (.int 30)))) (.con (.int 1))) .nil))))) (.cons (.cmp .IsNot (.call "is_address" (.cons (.tup .nil) .nil)) (.con (.bool true))) (.cons (.cmp .NotEq (.call "plain" (.cons (.tup .nil) .nil)) (.tup .nil)) .nil))))
    (.cons (.ret (.con (.bool false)))
    .nil)
    .nil)
    (.cons (.asg (.nm 2) (.lst true (.cons (.call "cut" (.cons (.tup (.cons (.tup (.cons (.tup (.cons (.con (.int 0)) .nil)) (.cons (.con (.int 0)) .nil))) (.cons (.con (.int 1)) (.cons (.tup (.cons (.tup (.cons (.con (.int 2)) .nil)) (.cons (.con (.int 0)) .nil))) .nil)))) (.cons (.con (.int 1)) .nil))) (.cons (.call "cut" (.cons (.tup (.cons (.tup (.cons (.tup (.cons (.con (.int 0)) (.cons (.con (.int 1)) .nil))) (.cons (.con (.int 3)) .nil))) (.cons (.con (.int 2)) .nil))) (.cons (.con (.int 6)) .nil))) (.cons (.call "cut" (.cons (.tup (.cons (.tup (.cons (.tup (.cons (.con (.int 0)) (.cons (.con (.int 1)) .nil))) (.cons (.con (.int 3)) .nil))) (.cons (.con (.int 2)) .nil))) (.cons (.con (.int 1)) .nil))) (.cons (.call "cut" (.cons (.tup (.cons (.con (.int 1)) (.cons (.con (.int 2)) .nil))) (.cons (.con (.int 0)) .nil))) .nil))))))
    (.cons (.ret (.cmp .Eq (.var 2) (.lst false (.cons (.tup (.cons (.tup (.cons (.tup (.cons (.con (.int 0)) .nil)) (.cons (.con (.int 0)) .nil))) (.cons (.con (.int 1)) .nil))) (.cons (.tup (.cons (.tup (.cons (.tup (.cons (.con (.int 0)) (.cons (.con (.int 1)) .nil))) (.cons (.con (.int 3)) .nil))) .nil)) (.cons (.tup (.cons (.con (.int 0)) .nil)) (.cons (.tup .nil) .nil)))))))
    .nil))))))
def d_law : Def := ⟨5, 1, false, b_law⟩
def defs : List (Str × Def) := [("is_integer", d_is_integer), ("is_between", d_is_between), ("is_piece", d_is_piece), ("is_element", d_is_element), ("is_address", d_is_address), ("require_address", d_require_address), ("steps_of", d_steps_of), ("length_in", d_length_in), ("plain_in", d_plain_in), ("cut_in", d_cut_in), ("length_of", d_length_of), ("plain", d_plain), ("cut", d_cut), ("_law_stream", d__law_stream), ("_law_draw", d__law_draw), ("_law_pick", d__law_pick), ("_law_address", d__law_address), ("_law_length", d__law_length), ("_law_rows", d__law_rows), ("_law_is_whole", d__law_is_whole), ("_law_is_element", d__law_is_element), ("_law_is_address", d__law_is_address), ("_law_odd_element", d__law_odd_element), ("_law_near_address", d__law_near_address), ("_law_cut", d__law_cut), ("_law_cuts_right", d__law_cuts_right), ("_law_long", d__law_long), ("_law_right", d__law_right), ("law", d_law)]
def Pd (x : Str) : Option Def := defs.lookup x
theorem sc_is_integer : FnScope N_is_integer ["value"] (defScope s_is_integer) := ⟨rfl, rfl, rfl, by decide +kernel, rfl, by decide +kernel, by decide +kernel⟩
theorem ck_is_integer : chkSs ⟨N_is_integer, fs, cs, xs⟩ (defScope s_is_integer) b_is_integer (defBody s_is_integer) = true := by decide +kernel
theorem sc_is_between : FnScope N_is_between ["value", "low", "high"] (defScope s_is_between) := ⟨rfl, rfl, rfl, by decide +kernel, rfl, by decide +kernel, by decide +kernel⟩
theorem ck_is_between : chkSs ⟨N_is_between, fs, cs, xs⟩ (defScope s_is_between) b_is_between (defBody s_is_between) = true := by decide +kernel
theorem sc_is_piece : FnScope N_is_piece ["value"] (defScope s_is_piece) := ⟨rfl, rfl, rfl, by decide +kernel, rfl, by decide +kernel, by decide +kernel⟩
theorem ck_is_piece : chkSs ⟨N_is_piece, fs, cs, xs⟩ (defScope s_is_piece) b_is_piece (defBody s_is_piece) = true := by decide +kernel
theorem sc_is_element : FnScope N_is_element ["value"] (defScope s_is_element) := ⟨rfl, rfl, rfl, by decide +kernel, rfl, by decide +kernel, by decide +kernel⟩
theorem ck_is_element : chkSs ⟨N_is_element, fs, cs, xs⟩ (defScope s_is_element) b_is_element (defBody s_is_element) = true := by decide +kernel
theorem sc_is_address : FnScope N_is_address ["value"] (defScope s_is_address) := ⟨rfl, rfl, rfl, by decide +kernel, rfl, by decide +kernel, by decide +kernel⟩
theorem ck_is_address : chkSs ⟨N_is_address, fs, cs, xs⟩ (defScope s_is_address) b_is_address (defBody s_is_address) = true := by decide +kernel
theorem sc_require_address : FnScope N_require_address ["value"] (defScope s_require_address) := ⟨rfl, rfl, rfl, by decide +kernel, rfl, by decide +kernel, by decide +kernel⟩
theorem ck_require_address : chkSs ⟨N_require_address, fs, cs, xs⟩ (defScope s_require_address) b_require_address (defBody s_require_address) = true := by decide +kernel
theorem sc_steps_of : FnScope N_steps_of ["element"] (defScope s_steps_of) := ⟨rfl, rfl, rfl, by decide +kernel, rfl, by decide +kernel, by decide +kernel⟩
theorem ck_steps_of : chkSs ⟨N_steps_of, fs, cs, xs⟩ (defScope s_steps_of) b_steps_of (defBody s_steps_of) = true := by decide +kernel
theorem sc_length_in : FnScope N_length_in ["address"] (defScope s_length_in) := ⟨rfl, rfl, rfl, by decide +kernel, rfl, by decide +kernel, by decide +kernel⟩
theorem ck_length_in : chkSs ⟨N_length_in, fs, cs, xs⟩ (defScope s_length_in) b_length_in (defBody s_length_in) = true := by decide +kernel
theorem sc_plain_in : FnScope N_plain_in ["address"] (defScope s_plain_in) := ⟨rfl, rfl, rfl, by decide +kernel, rfl, by decide +kernel, by decide +kernel⟩
theorem ck_plain_in : chkSs ⟨N_plain_in, fs, cs, xs⟩ (defScope s_plain_in) b_plain_in (defBody s_plain_in) = true := by decide +kernel
theorem sc_cut_in : FnScope N_cut_in ["address", "length"] (defScope s_cut_in) := ⟨rfl, rfl, rfl, by decide +kernel, rfl, by decide +kernel, by decide +kernel⟩
theorem ck_cut_in : chkSs ⟨N_cut_in, fs, cs, xs⟩ (defScope s_cut_in) b_cut_in (defBody s_cut_in) = true := by decide +kernel
theorem sc_length_of : FnScope N_length_of ["address"] (defScope s_length_of) := ⟨rfl, rfl, rfl, by decide +kernel, rfl, by decide +kernel, by decide +kernel⟩
theorem ck_length_of : chkSs ⟨N_length_of, fs, cs, xs⟩ (defScope s_length_of) b_length_of (defBody s_length_of) = true := by decide +kernel
theorem sc_plain : FnScope N_plain ["address"] (defScope s_plain) := ⟨rfl, rfl, rfl, by decide +kernel, rfl, by decide +kernel, by decide +kernel⟩
theorem ck_plain : chkSs ⟨N_plain, fs, cs, xs⟩ (defScope s_plain) b_plain (defBody s_plain) = true := by decide +kernel
theorem sc_cut : FnScope N_cut ["address", "length"] (defScope s_cut) := ⟨rfl, rfl, rfl, by decide +kernel, rfl, by decide +kernel, by decide +kernel⟩
theorem ck_cut : chkSs ⟨N_cut, fs, cs, xs⟩ (defScope s_cut) b_cut (defBody s_cut) = true := by decide +kernel
theorem sc__law_stream : FnScope N__law_stream ["_law_script", "_law_at"] (defScope s__law_stream) := ⟨rfl, rfl, rfl, by decide +kernel, rfl, by decide +kernel, by decide +kernel⟩
theorem ck__law_stream : chkSs ⟨N__law_stream, fs, cs, xs⟩ (defScope s__law_stream) b__law_stream (defBody s__law_stream) = true := by decide +kernel
theorem sc__law_draw : FnScope N__law_draw ["_law_stream_here", "_law_high"] (defScope s__law_draw) := ⟨rfl, rfl, rfl, by decide +kernel, rfl, by decide +kernel, by decide +kernel⟩
theorem ck__law_draw : chkSs ⟨N__law_draw, fs, cs, xs⟩ (defScope s__law_draw) b__law_draw (defBody s__law_draw) = true := by decide +kernel
theorem sc__law_pick : FnScope N__law_pick ["_law_stream_here", "_law_items"] (defScope s__law_pick) := ⟨rfl, rfl, rfl, by decide +kernel, rfl, by decide +kernel, by decide +kernel⟩
theorem ck__law_pick : chkSs ⟨N__law_pick, fs, cs, xs⟩ (defScope s__law_pick) b__law_pick (defBody s__law_pick) = true := by decide +kernel
theorem sc__law_address : FnScope N__law_address ["_law_stream_here", "_law_much", "_law_far"] (defScope s__law_address) := ⟨rfl, rfl, rfl, by decide +kernel, rfl, by decide +kernel, by decide +kernel⟩
theorem ck__law_address : chkSs ⟨N__law_address, fs, cs, xs⟩ (defScope s__law_address) b__law_address (defBody s__law_address) = true := by decide +kernel
theorem sc__law_length : FnScope N__law_length ["_law_address_here"] (defScope s__law_length) := ⟨rfl, rfl, rfl, by decide +kernel, rfl, by decide +kernel, by decide +kernel⟩
theorem ck__law_length : chkSs ⟨N__law_length, fs, cs, xs⟩ (defScope s__law_length) b__law_length (defBody s__law_length) = true := by decide +kernel
theorem sc__law_rows : FnScope N__law_rows ["_law_address_here"] (defScope s__law_rows) := ⟨rfl, rfl, rfl, by decide +kernel, rfl, by decide +kernel, by decide +kernel⟩
theorem ck__law_rows : chkSs ⟨N__law_rows, fs, cs, xs⟩ (defScope s__law_rows) b__law_rows (defBody s__law_rows) = true := by decide +kernel
theorem sc__law_is_whole : FnScope N__law_is_whole ["_law_value", "_law_low", "_law_high"] (defScope s__law_is_whole) := ⟨rfl, rfl, rfl, by decide +kernel, rfl, by decide +kernel, by decide +kernel⟩
theorem ck__law_is_whole : chkSs ⟨N__law_is_whole, fs, cs, xs⟩ (defScope s__law_is_whole) b__law_is_whole (defBody s__law_is_whole) = true := by decide +kernel
theorem sc__law_is_element : FnScope N__law_is_element ["_law_value"] (defScope s__law_is_element) := ⟨rfl, rfl, rfl, by decide +kernel, rfl, by decide +kernel, by decide +kernel⟩
theorem ck__law_is_element : chkSs ⟨N__law_is_element, fs, cs, xs⟩ (defScope s__law_is_element) b__law_is_element (defBody s__law_is_element) = true := by decide +kernel
theorem sc__law_is_address : FnScope N__law_is_address ["_law_value"] (defScope s__law_is_address) := ⟨rfl, rfl, rfl, by decide +kernel, rfl, by decide +kernel, by decide +kernel⟩
theorem ck__law_is_address : chkSs ⟨N__law_is_address, fs, cs, xs⟩ (defScope s__law_is_address) b__law_is_address (defBody s__law_is_address) = true := by decide +kernel
theorem sc__law_odd_element : FnScope N__law_odd_element ["_law_stream_here"] (defScope s__law_odd_element) := ⟨rfl, rfl, rfl, by decide +kernel, rfl, by decide +kernel, by decide +kernel⟩
theorem ck__law_odd_element : chkSs ⟨N__law_odd_element, fs, cs, xs⟩ (defScope s__law_odd_element) b__law_odd_element (defBody s__law_odd_element) = true := by decide +kernel
theorem sc__law_near_address : FnScope N__law_near_address ["_law_stream_here", "_law_address_here"] (defScope s__law_near_address) := ⟨rfl, rfl, rfl, by decide +kernel, rfl, by decide +kernel, by decide +kernel⟩
theorem ck__law_near_address : chkSs ⟨N__law_near_address, fs, cs, xs⟩ (defScope s__law_near_address) b__law_near_address (defBody s__law_near_address) = true := by decide +kernel
theorem sc__law_cut : FnScope N__law_cut ["_law_address_here", "_law_far"] (defScope s__law_cut) := ⟨rfl, rfl, rfl, by decide +kernel, rfl, by decide +kernel, by decide +kernel⟩
theorem ck__law_cut : chkSs ⟨N__law_cut, fs, cs, xs⟩ (defScope s__law_cut) b__law_cut (defBody s__law_cut) = true := by decide +kernel
theorem sc__law_cuts_right : FnScope N__law_cuts_right ["_law_stream_here", "_law_address_here"] (defScope s__law_cuts_right) := ⟨rfl, rfl, rfl, by decide +kernel, rfl, by decide +kernel, by decide +kernel⟩
theorem ck__law_cuts_right : chkSs ⟨N__law_cuts_right, fs, cs, xs⟩ (defScope s__law_cuts_right) b__law_cuts_right (defBody s__law_cuts_right) = true := by decide +kernel
theorem sc__law_long : FnScope N__law_long ["_law_address_here"] (defScope s__law_long) := ⟨rfl, rfl, rfl, by decide +kernel, rfl, by decide +kernel, by decide +kernel⟩
theorem ck__law_long : chkSs ⟨N__law_long, fs, cs, xs⟩ (defScope s__law_long) b__law_long (defBody s__law_long) = true := by decide +kernel
theorem sc__law_right : FnScope N__law_right ["_law_stream_here"] (defScope s__law_right) := ⟨rfl, rfl, rfl, by decide +kernel, rfl, by decide +kernel, by decide +kernel⟩
theorem ck__law_right : chkSs ⟨N__law_right, fs, cs, xs⟩ (defScope s__law_right) b__law_right (defBody s__law_right) = true := by decide +kernel
theorem sc_law : FnScope N_law ["_law_script"] (defScope s_law) := ⟨rfl, rfl, rfl, by decide +kernel, rfl, by decide +kernel, by decide +kernel⟩
theorem ck_law : chkSs ⟨N_law, fs, cs, xs⟩ (defScope s_law) b_law (defBody s_law) = true := by decide +kernel
/-! the facts that the head gives -/
def FF (K : Frg) (nm : Str) (st : Stmt) : Prop := ∃ (f : Addr) (oc : Value) (od : Option Addr) (kV dc pm : Value) (an : Option Addr) (cd ct : Value) (sl : Array (Option Value)), PySem.W.nsIn K mainGlobals nm = some (some (.ref f)) ∧ K.lookup f = some ⟨oc, od, .func (PySem.W.fnOf nm nm (defArgs st) (defBody st) (defScope st) .none kV dc pm an cd ct), sl⟩ ∧ PySem.W.codeIn K cd nm = true ∧ PySem.W.keepIn K (.ref f) = true
theorem row_of {K : Frg} {h : Heap} {mg : Str → Option Value} {nm : Str} {st : Stmt} {N ps : List Str} {d : Def} (kin : K.In h) (G : h.Ns mainGlobals mg) (f : FF K nm st) (sc : FnScope N ps (defScope st)) (hd : Pd nm = some d) (hz : d.size = N.length) (hp : d.pars = ps.length) (ck : chkSs ⟨N, fs, cs, xs⟩ (defScope st) d.body (defBody st) = true)
    (hb : ∀ (kV dc pm : Value) (an : Option Addr) (cd ct : Value) (us : List Value), us.length = ps.length → bindArgs (PySem.W.fnOf nm nm (defArgs st) (defBody st) (defScope st) .none kV dc pm an cd ct) ⟨us, []⟩ = pure (ps.zip us)) :
    ∃ a fd, Row K mg fs cs xs Pd nm a fd ps := by
  obtain ⟨a, oc, od, kV, dc, pm, an, cd, ct, sl, h1, h2, h3, h4⟩ := f
  exact ⟨a, _, nm, nm, st, N, d, fun_mk (st := st) h2 h3 h4, sc, PySem.W.mg_of kin G h1, Binds.all (hb kV dc pm an cd ct), hd, hz, hp, ck⟩
structure Facts (K : Frg) : Prop where
  f_is_integer : FF K "is_integer" s_is_integer
  f_is_between : FF K "is_between" s_is_between
  f_is_piece : FF K "is_piece" s_is_piece
  f_is_element : FF K "is_element" s_is_element
  f_is_address : FF K "is_address" s_is_address
  f_require_address : FF K "require_address" s_require_address
  f_steps_of : FF K "steps_of" s_steps_of
  f_length_in : FF K "length_in" s_length_in
  f_plain_in : FF K "plain_in" s_plain_in
  f_cut_in : FF K "cut_in" s_cut_in
  f_length_of : FF K "length_of" s_length_of
  f_plain : FF K "plain" s_plain
  f_cut : FF K "cut" s_cut
  f__law_stream : FF K "_law_stream" s__law_stream
  f__law_draw : FF K "_law_draw" s__law_draw
  f__law_pick : FF K "_law_pick" s__law_pick
  f__law_address : FF K "_law_address" s__law_address
  f__law_length : FF K "_law_length" s__law_length
  f__law_rows : FF K "_law_rows" s__law_rows
  f__law_is_whole : FF K "_law_is_whole" s__law_is_whole
  f__law_is_element : FF K "_law_is_element" s__law_is_element
  f__law_is_address : FF K "_law_is_address" s__law_is_address
  f__law_odd_element : FF K "_law_odd_element" s__law_odd_element
  f__law_near_address : FF K "_law_near_address" s__law_near_address
  f__law_cut : FF K "_law_cut" s__law_cut
  f__law_cuts_right : FF K "_law_cuts_right" s__law_cuts_right
  f__law_long : FF K "_law_long" s__law_long
  f__law_right : FF K "_law_right" s__law_right
  f_law : FF K "law" s_law
theorem tab {K : Frg} {h : Heap} {mg : Str → Option Value} (kin : K.In h) (G : h.Ns mainGlobals mg) (T : Facts K) : ∀ f, fs f = true → ∃ a fd ps, Row K mg fs cs xs Pd f a fd ps := by
  intro f hf
  have hm : f ∈ fsL := by simpa [fs] using hf
  rcases List.mem_cons.mp hm with rfl | hm
  · obtain ⟨a, fd, r⟩ := row_of kin G T.f_is_integer sc_is_integer rfl rfl rfl ck_is_integer fun _ _ _ _ _ _ us hl => match us, hl with | [_], _ => rfl
    exact ⟨a, fd, _, r⟩
  rcases List.mem_cons.mp hm with rfl | hm
  · obtain ⟨a, fd, r⟩ := row_of kin G T.f_is_between sc_is_between rfl rfl rfl ck_is_between fun _ _ _ _ _ _ us hl => match us, hl with | [_, _, _], _ => rfl
    exact ⟨a, fd, _, r⟩
  rcases List.mem_cons.mp hm with rfl | hm
  · obtain ⟨a, fd, r⟩ := row_of kin G T.f_is_piece sc_is_piece rfl rfl rfl ck_is_piece fun _ _ _ _ _ _ us hl => match us, hl with | [_], _ => rfl
    exact ⟨a, fd, _, r⟩
  rcases List.mem_cons.mp hm with rfl | hm
  · obtain ⟨a, fd, r⟩ := row_of kin G T.f_is_element sc_is_element rfl rfl rfl ck_is_element fun _ _ _ _ _ _ us hl => match us, hl with | [_], _ => rfl
    exact ⟨a, fd, _, r⟩
  rcases List.mem_cons.mp hm with rfl | hm
  · obtain ⟨a, fd, r⟩ := row_of kin G T.f_is_address sc_is_address rfl rfl rfl ck_is_address fun _ _ _ _ _ _ us hl => match us, hl with | [_], _ => rfl
    exact ⟨a, fd, _, r⟩
  rcases List.mem_cons.mp hm with rfl | hm
  · obtain ⟨a, fd, r⟩ := row_of kin G T.f_require_address sc_require_address rfl rfl rfl ck_require_address fun _ _ _ _ _ _ us hl => match us, hl with | [_], _ => rfl
    exact ⟨a, fd, _, r⟩
  rcases List.mem_cons.mp hm with rfl | hm
  · obtain ⟨a, fd, r⟩ := row_of kin G T.f_steps_of sc_steps_of rfl rfl rfl ck_steps_of fun _ _ _ _ _ _ us hl => match us, hl with | [_], _ => rfl
    exact ⟨a, fd, _, r⟩
  rcases List.mem_cons.mp hm with rfl | hm
  · obtain ⟨a, fd, r⟩ := row_of kin G T.f_length_in sc_length_in rfl rfl rfl ck_length_in fun _ _ _ _ _ _ us hl => match us, hl with | [_], _ => rfl
    exact ⟨a, fd, _, r⟩
  rcases List.mem_cons.mp hm with rfl | hm
  · obtain ⟨a, fd, r⟩ := row_of kin G T.f_plain_in sc_plain_in rfl rfl rfl ck_plain_in fun _ _ _ _ _ _ us hl => match us, hl with | [_], _ => rfl
    exact ⟨a, fd, _, r⟩
  rcases List.mem_cons.mp hm with rfl | hm
  · obtain ⟨a, fd, r⟩ := row_of kin G T.f_cut_in sc_cut_in rfl rfl rfl ck_cut_in fun _ _ _ _ _ _ us hl => match us, hl with | [_, _], _ => rfl
    exact ⟨a, fd, _, r⟩
  rcases List.mem_cons.mp hm with rfl | hm
  · obtain ⟨a, fd, r⟩ := row_of kin G T.f_length_of sc_length_of rfl rfl rfl ck_length_of fun _ _ _ _ _ _ us hl => match us, hl with | [_], _ => rfl
    exact ⟨a, fd, _, r⟩
  rcases List.mem_cons.mp hm with rfl | hm
  · obtain ⟨a, fd, r⟩ := row_of kin G T.f_plain sc_plain rfl rfl rfl ck_plain fun _ _ _ _ _ _ us hl => match us, hl with | [_], _ => rfl
    exact ⟨a, fd, _, r⟩
  rcases List.mem_cons.mp hm with rfl | hm
  · obtain ⟨a, fd, r⟩ := row_of kin G T.f_cut sc_cut rfl rfl rfl ck_cut fun _ _ _ _ _ _ us hl => match us, hl with | [_, _], _ => rfl
    exact ⟨a, fd, _, r⟩
  rcases List.mem_cons.mp hm with rfl | hm
  · obtain ⟨a, fd, r⟩ := row_of kin G T.f__law_stream sc__law_stream rfl rfl rfl ck__law_stream fun _ _ _ _ _ _ us hl => match us, hl with | [_, _], _ => rfl
    exact ⟨a, fd, _, r⟩
  rcases List.mem_cons.mp hm with rfl | hm
  · obtain ⟨a, fd, r⟩ := row_of kin G T.f__law_draw sc__law_draw rfl rfl rfl ck__law_draw fun _ _ _ _ _ _ us hl => match us, hl with | [_, _], _ => rfl
    exact ⟨a, fd, _, r⟩
  rcases List.mem_cons.mp hm with rfl | hm
  · obtain ⟨a, fd, r⟩ := row_of kin G T.f__law_pick sc__law_pick rfl rfl rfl ck__law_pick fun _ _ _ _ _ _ us hl => match us, hl with | [_, _], _ => rfl
    exact ⟨a, fd, _, r⟩
  rcases List.mem_cons.mp hm with rfl | hm
  · obtain ⟨a, fd, r⟩ := row_of kin G T.f__law_address sc__law_address rfl rfl rfl ck__law_address fun _ _ _ _ _ _ us hl => match us, hl with | [_, _, _], _ => rfl
    exact ⟨a, fd, _, r⟩
  rcases List.mem_cons.mp hm with rfl | hm
  · obtain ⟨a, fd, r⟩ := row_of kin G T.f__law_length sc__law_length rfl rfl rfl ck__law_length fun _ _ _ _ _ _ us hl => match us, hl with | [_], _ => rfl
    exact ⟨a, fd, _, r⟩
  rcases List.mem_cons.mp hm with rfl | hm
  · obtain ⟨a, fd, r⟩ := row_of kin G T.f__law_rows sc__law_rows rfl rfl rfl ck__law_rows fun _ _ _ _ _ _ us hl => match us, hl with | [_], _ => rfl
    exact ⟨a, fd, _, r⟩
  rcases List.mem_cons.mp hm with rfl | hm
  · obtain ⟨a, fd, r⟩ := row_of kin G T.f__law_is_whole sc__law_is_whole rfl rfl rfl ck__law_is_whole fun _ _ _ _ _ _ us hl => match us, hl with | [_, _, _], _ => rfl
    exact ⟨a, fd, _, r⟩
  rcases List.mem_cons.mp hm with rfl | hm
  · obtain ⟨a, fd, r⟩ := row_of kin G T.f__law_is_element sc__law_is_element rfl rfl rfl ck__law_is_element fun _ _ _ _ _ _ us hl => match us, hl with | [_], _ => rfl
    exact ⟨a, fd, _, r⟩
  rcases List.mem_cons.mp hm with rfl | hm
  · obtain ⟨a, fd, r⟩ := row_of kin G T.f__law_is_address sc__law_is_address rfl rfl rfl ck__law_is_address fun _ _ _ _ _ _ us hl => match us, hl with | [_], _ => rfl
    exact ⟨a, fd, _, r⟩
  rcases List.mem_cons.mp hm with rfl | hm
  · obtain ⟨a, fd, r⟩ := row_of kin G T.f__law_odd_element sc__law_odd_element rfl rfl rfl ck__law_odd_element fun _ _ _ _ _ _ us hl => match us, hl with | [_], _ => rfl
    exact ⟨a, fd, _, r⟩
  rcases List.mem_cons.mp hm with rfl | hm
  · obtain ⟨a, fd, r⟩ := row_of kin G T.f__law_near_address sc__law_near_address rfl rfl rfl ck__law_near_address fun _ _ _ _ _ _ us hl => match us, hl with | [_, _], _ => rfl
    exact ⟨a, fd, _, r⟩
  rcases List.mem_cons.mp hm with rfl | hm
  · obtain ⟨a, fd, r⟩ := row_of kin G T.f__law_cut sc__law_cut rfl rfl rfl ck__law_cut fun _ _ _ _ _ _ us hl => match us, hl with | [_, _], _ => rfl
    exact ⟨a, fd, _, r⟩
  rcases List.mem_cons.mp hm with rfl | hm
  · obtain ⟨a, fd, r⟩ := row_of kin G T.f__law_cuts_right sc__law_cuts_right rfl rfl rfl ck__law_cuts_right fun _ _ _ _ _ _ us hl => match us, hl with | [_, _], _ => rfl
    exact ⟨a, fd, _, r⟩
  rcases List.mem_cons.mp hm with rfl | hm
  · obtain ⟨a, fd, r⟩ := row_of kin G T.f__law_long sc__law_long rfl rfl rfl ck__law_long fun _ _ _ _ _ _ us hl => match us, hl with | [_], _ => rfl
    exact ⟨a, fd, _, r⟩
  rcases List.mem_cons.mp hm with rfl | hm
  · obtain ⟨a, fd, r⟩ := row_of kin G T.f__law_right sc__law_right rfl rfl rfl ck__law_right fun _ _ _ _ _ _ us hl => match us, hl with | [_], _ => rfl
    exact ⟨a, fd, _, r⟩
  rcases List.mem_cons.mp hm with rfl | hm
  · obtain ⟨a, fd, r⟩ := row_of kin G T.f_law sc_law rfl rfl rfl ck_law fun _ _ _ _ _ _ us hl => match us, hl with | [_], _ => rfl
    exact ⟨a, fd, _, r⟩
  cases hm
end K17

namespace K17
open PySem PySem.Spec PyProof.Rows L2 Mi
theorem P_is_integer : Pd "is_integer" = some d_is_integer := by rfl
theorem P_is_between : Pd "is_between" = some d_is_between := by rfl
theorem P_is_piece : Pd "is_piece" = some d_is_piece := by rfl
theorem P_is_element : Pd "is_element" = some d_is_element := by rfl
theorem P_is_address : Pd "is_address" = some d_is_address := by rfl
theorem P_law_is_whole : Pd "_law_is_whole" = some d__law_is_whole := by rfl
theorem P_law_is_element : Pd "_law_is_element" = some d__law_is_element := by rfl
theorem P_law_is_address : Pd "_law_is_address" = some d__law_is_address := by rfl
theorem g_last : gc "LAST_CHILD" = some (.int 2) := by rfl
theorem g_times : gc "MAX_TIMES" = some (.int 1000000000000000000000000000000) := by rfl
theorem g_steps : gc "MAX_STEPS" = some (.int 1000) := by rfl
def isInt : PD → Bool
  | .int _ => true
  | _ => false
theorem c_is_integer (n : Nat) (v : PD) (h : Hd) : callN gc Pd (n + 1) "is_integer" [.dat v] h = .ok (.dat (.bool (isInt v))) h := by
  rw [call_def P_is_integer rfl]
  simp only [runDef, d_is_integer, b_is_integer]
  cases v <;> simp [exSs, exS, evE, evEs, evB, Res.bind, Res.out, rd, isiP, truD, truP, leave, isInt]
def betw (v : PD) (lo hi : Int) : Bool := match v with
  | .int i => decide (lo ≤ i) && decide (i ≤ hi)
  | _ => false
theorem c_is_between (n : Nat) (v : PD) (lo hi : Int) (h : Hd) : callN gc Pd (n + 2) "is_between" [.dat v, .dat (.int lo), .dat (.int hi)] h = .ok (.dat (.bool (betw v lo hi))) h := by
  rw [call_def P_is_between rfl]
  simp only [runDef, d_is_between, b_is_between]
  cases v with
  | int i =>
    by_cases h1 : lo ≤ i <;> simp [exSs, exS, evE, evEs, evB, Res.bind, Res.out, rd, isiP, truD, truP, leave, isInt, betw, c_is_integer, cmpP, leP, ofO, h1]
  | _ => simp [exSs, exS, evE, evEs, evB, Res.bind, Res.out, rd, isiP, truD, truP, leave, isInt, betw, c_is_integer, cmpP, leP, ofO]
theorem c_law_is_whole (n : Nat) (v : PD) (lo hi : Int) (h : Hd) : callN gc Pd (n + 1) "_law_is_whole" [.dat v, .dat (.int lo), .dat (.int hi)] h = .ok (.dat (.bool (betw v lo hi))) h := by
  rw [call_def P_law_is_whole rfl]
  simp only [runDef, d__law_is_whole, b__law_is_whole]
  cases v with
  | int i =>
    by_cases h1 : lo ≤ i <;> simp [exSs, exS, evE, evEs, evB, Res.bind, Res.out, rd, isiP, truD, truP, leave, betw, cmpP, leP, ofO, h1]
  | _ => simp [exSs, exS, evE, evEs, evB, Res.bind, Res.out, rd, isiP, truD, truP, leave, betw, cmpP, leP, ofO]
theorem boolsP_map (g : PD → Bool) : ∀ ds : List PD, boolsP (ds.map fun d => .bool (g d)) = some (ds.map g)
  | [] => rfl
  | d :: r => by simp [boolsP, boolsP_map g r]
theorem allP_map (g : PD → Bool) (ds : List PD) : allP [.list (ds.map fun d => .bool (g d))] = some (.bool (ds.all g)) := by
  simp [allP, boolsP_map, List.all_map]
def pieceB : PD → Bool
  | .tuple ds => !ds.isEmpty && ds.all (betw · 0 2)
  | _ => false
theorem c_is_piece (n : Nat) (v : PD) (h : Hd) (hz : ∀ ds, v = .tuple ds → ds.length ≤ sizeLine) : callN gc Pd (n + 3) "is_piece" [.dat v] h = .ok (.dat (.bool (pieceB v))) h := by
  rw [call_def P_is_piece rfl]
  simp only [runDef, d_is_piece, b_is_piece]
  cases v with
  | tuple ds =>
    have lc : evE (callN gc Pd (n + 2)) gc q0_is_piece [some (D.dat (.tuple ds)), none] h = .ok (.dat (.list (ds.map fun d => .bool (betw d 0 2)))) h := by
      refine ev_lcM _ ?_ (hz ds rfl) fun d hd => ⟨_, rfl, ?_⟩
      · simp [evI, evE, Res.bind, seqOf]
      · simp [y0_is_piece, evE, evEs, Res.bind, ofO, g_last, c_is_between, wipeL, Pt.slots]
    cases hd : ds.isEmpty <;> simp [exSs, exS, evE, evEs, evB, Res.bind, Res.out, rd, isiP, truD, truP, leave, cmpP, ofO, datsOf, neP_nil, hd, pieceB, lc, rdsOf, Bl.fn, allP_map]
  | _ => simp [exSs, exS, evE, evEs, evB, Res.bind, Res.out, rd, isiP, truD, truP, leave, pieceB]
def elB : PD → Bool
  | .tuple [a, b] => pieceB a && betw b 0 1000000000000000000000000000000
  | .tuple _ => false
  | v => betw v 0 2
/-- pieces that are not too long -/
def Sz (v : PD) : Prop := ∀ ds, v = .tuple ds → ds.length ≤ 100000
theorem Sz.le {v : PD} (h : Sz v) : ∀ ds, v = .tuple ds → ds.length ≤ sizeLine := fun ds e => by
  have := h ds e
  rw [sizeLine_eq]
  omega
theorem len_tuple (ds : List PD) : lenP [.tuple ds] = some (.int ds.length) := rfl
theorem eq_ints (i j : Int) : eqP (.int i) (.int j) = some (.bool (i == j)) := by
  simp [eqP, eqOk, scalP, plainV, scal, PyData.eqv]
theorem ne_ints (i j : Int) : neP (.int i) (.int j) = some (.bool (!(i == j))) := by
  simp [neP, eqOk, scalP, plainV, scal, PyData.eqv]
theorem c_is_element (n : Nat) (v : PD) (h : Hd) (hz : ∀ a b, v = .tuple [a, b] → Sz a) : callN gc Pd (n + 4) "is_element" [.dat v] h = .ok (.dat (.bool (elB v))) h := by
  rw [call_def P_is_element rfl]
  simp only [runDef, d_is_element, b_is_element]
  cases v with
  | tuple ds =>
    match ds, hz with
    | [], hz => simp [exSs, exS, evT, evE, evEs, evB, Res.bind, Res.out, rd, isiP, truD, truP, leave, cmpP, ofO, rdsOf, Bl.fn, len_tuple, eq_ints, elB]
    | [a], hz => simp [exSs, exS, evT, evE, evEs, evB, Res.bind, Res.out, rd, isiP, truD, truP, leave, cmpP, ofO, rdsOf, Bl.fn, len_tuple, eq_ints, elB]
    | a :: b :: c :: r, hz =>
      have e : ((r.length : Int) + 1 + 1 + 1 == 2) = false := by rw [beq_eq_false_iff_ne]; omega
      simp [exSs, exS, evT, evE, evEs, evB, Res.bind, Res.out, rd, isiP, truD, truP, leave, cmpP, ofO, rdsOf, Bl.fn, len_tuple, eq_ints, elB, e]
    | [a, b], hz =>
      have i0 : ixP (.tuple [a, b]) (.int 0) = some a := rfl
      have i1 : ixP (.tuple [a, b]) (.int 1) = some b := rfl
      cases hp : pieceB a <;> simp [exSs, exS, evT, evE, evEs, evB, Res.bind, Res.out, rd, isiP, truD, truP, leave, cmpP, ofO, rdsOf, Bl.fn, len_tuple, eq_ints, elB, i0, i1, c_is_piece n a h (hz a b rfl).le, hp, g_times, c_is_between]
  | _ => simp [exSs, exS, evT, evE, evEs, evB, Res.bind, Res.out, rd, isiP, truD, truP, leave, cmpP, ofO, elB, g_last, c_is_between]
end K17

namespace K17
open PySem PySem.Spec PyProof.Rows L2 Mi
theorem pow_of {a b c : Int} (h : decide (0 ≤ b ∧ (Builtin.Int.intBits a : Int) * b ≤ 2 ^ 27) = true) (e : a ^ b.toNat = c) : powP (.int a) (.int b) = some (.int c) := by
  unfold powP
  dsimp only
  rw [if_pos (of_decide_eq_true h), e]
theorem pow30 : powP (.int 10) (.int 30) = some (.int 1000000000000000000000000000000) := pow_of (by decide +kernel) (by decide +kernel)
def addrB : PD → Bool
  | .tuple ds => ds.all elB
  | _ => false
/-- not too long at all places that are looked at -/
def Sz2 (v : PD) : Prop := ∀ ds, v = .tuple ds → ds.length ≤ 100000 ∧ ∀ e ∈ ds, ∀ a b, e = .tuple [a, b] → Sz a
theorem c_is_address (n : Nat) (v : PD) (h : Hd) (hz : Sz2 v) : callN gc Pd (n + 5) "is_address" [.dat v] h = .ok (.dat (.bool (addrB v))) h := by
  rw [call_def P_is_address rfl]
  simp only [runDef, d_is_address, b_is_address]
  cases v with
  | tuple ds =>
    obtain ⟨h1, h2⟩ := hz ds rfl
    have lc : evE (callN gc Pd (n + 4)) gc q0_is_address [some (D.dat (.tuple ds)), none] h = .ok (.dat (.list (ds.map fun d => .bool (elB d)))) h := by
      refine ev_lcM _ ?_ (by rw [sizeLine_eq]; omega) fun d hd => ⟨_, rfl, ?_⟩
      · simp [evI, evE, Res.bind, seqOf]
      · simp [y0_is_address, evE, evEs, Res.bind, c_is_element n d h (h2 d hd), wipeL, Pt.slots]
    simp [exSs, exS, evE, evEs, evB, Res.bind, Res.out, rd, isiP, truD, truP, leave, ofO, addrB, lc, rdsOf, Bl.fn, allP_map]
  | _ => simp [exSs, exS, evE, evEs, evB, Res.bind, Res.out, rd, isiP, truD, truP, leave, addrB]
theorem filt_all (g : PD → Bool) (ds : List PD) : (ds.filter fun d => !g d).isEmpty = ds.all g := by
  induction ds with
  | nil => rfl
  | cons d r ih =>
    cases hg : g d <;> simp [hg, ih]
theorem c_law_is_element (n : Nat) (v : PD) (h : Hd) (hz : ∀ a b, v = .tuple [a, b] → Sz a) : callN gc Pd (n + 2) "_law_is_element" [.dat v] h = .ok (.dat (.bool (elB v))) h := by
  rw [call_def P_law_is_element rfl]
  simp only [runDef, d__law_is_element, b__law_is_element]
  cases v with
  | tuple ds =>
    match ds, hz with
    | [], hz => simp [exSs, exS, evT, evE, evEs, evB, Res.bind, Res.out, rd, isiP, truD, truP, leave, cmpP, ofO, rdsOf, Bl.fn, len_tuple, ne_ints, elB]
    | [a], hz => simp [exSs, exS, evT, evE, evEs, evB, Res.bind, Res.out, rd, isiP, truD, truP, leave, cmpP, ofO, rdsOf, Bl.fn, len_tuple, ne_ints, elB]
    | a :: b :: c :: r, hz =>
      have e : ((r.length : Int) + 1 + 1 + 1 == 2) = false := by rw [beq_eq_false_iff_ne]; omega
      simp [exSs, exS, evT, evE, evEs, evB, Res.bind, Res.out, rd, isiP, truD, truP, leave, cmpP, ofO, rdsOf, Bl.fn, len_tuple, ne_ints, elB, e]
    | [a, b], hz =>
      have i0 : ixP (.tuple [a, b]) (.int 0) = some a := rfl
      have i1 : ixP (.tuple [a, b]) (.int 1) = some b := rfl
      cases a with
      | tuple ps =>
        have lc : evE (callN gc Pd (n + 1)) gc q0__law_is_element [some (D.dat (.tuple [.tuple ps, b])), none] h = .ok (.dat (.list ((ps.filter fun d => !betw d 0 2).map id))) h := by
          refine ev_lcF (fun d => !betw d 0 2) id ?_ ((hz _ _ rfl).le ps rfl) fun d hd => ⟨_, rfl, ?_, fun _ => ?_⟩
          · simp [evI, evE, Res.bind, rd, i0, ofO, seqOf]
          · simp [z0__law_is_element, evC, evE, evEs, Res.bind, c_law_is_whole, wipeL, Pt.slots, truD, rd, truP]
          · simp [y0__law_is_element, evE, wipeL, Pt.slots]
        cases he : ps.isEmpty with
        | true => simp [exSs, exS, evT, evE, evEs, evB, Res.bind, Res.out, rd, isiP, truD, truP, leave, cmpP, ofO, rdsOf, Bl.fn, len_tuple, ne_ints, elB, i0, i1, datsOf, eqP_nil, he, pieceB]
        | false =>
          have fa := filt_all (betw · 0 2) ps
          cases hp : ps.all (betw · 0 2) with
          | false =>
            rw [hp] at fa
            simp [exSs, exS, evT, evE, evEs, evB, Res.bind, Res.out, rd, isiP, truD, truP, leave, cmpP, ofO, rdsOf, Bl.fn, len_tuple, ne_ints, elB, i0, i1, datsOf, eqP_nil, he, pieceB, lc, mkL, eqP_nilL, fa, hp]
          | true =>
            rw [hp] at fa
            simp [exSs, exS, evT, evE, evEs, evB, Res.bind, Res.out, rd, isiP, truD, truP, leave, cmpP, ofO, rdsOf, Bl.fn, len_tuple, ne_ints, elB, i0, i1, datsOf, eqP_nil, he, pieceB, lc, mkL, eqP_nilL, fa, hp, rdx, binP, pow30, c_law_is_whole]
      | _ => simp [exSs, exS, evT, evE, evEs, evB, Res.bind, Res.out, rd, isiP, truD, truP, leave, cmpP, ofO, rdsOf, Bl.fn, len_tuple, ne_ints, elB, i0, i1, pieceB]
  | _ => simp [exSs, exS, evT, evE, evEs, evB, Res.bind, Res.out, rd, isiP, truD, truP, leave, cmpP, ofO, elB, c_law_is_whole]
theorem c_law_is_address (n : Nat) (v : PD) (h : Hd) (hz : Sz2 v) : callN gc Pd (n + 3) "_law_is_address" [.dat v] h = .ok (.dat (.bool (addrB v))) h := by
  rw [call_def P_law_is_address rfl]
  simp only [runDef, d__law_is_address, b__law_is_address]
  cases v with
  | tuple ds =>
    obtain ⟨h1, h2⟩ := hz ds rfl
    have lc : evE (callN gc Pd (n + 2)) gc q0__law_is_address [some (D.dat (.tuple ds)), none] h = .ok (.dat (.list ((ds.filter fun d => !elB d).map id))) h := by
      refine ev_lcF (fun d => !elB d) id ?_ (by rw [sizeLine_eq]; omega) fun d hd => ⟨_, rfl, ?_, fun _ => ?_⟩
      · simp [evI, evE, Res.bind, seqOf]
      · simp [z0__law_is_address, evC, evE, evEs, Res.bind, c_law_is_element n d h (h2 d hd), wipeL, Pt.slots, truD, rd, truP]
      · simp [y0__law_is_address, evE, wipeL, Pt.slots]
    have fa := filt_all elB ds
    simp [exSs, exS, evE, evEs, evB, Res.bind, Res.out, rd, isiP, truD, truP, leave, ofO, addrB, lc, cmpP, datsOf, mkL, eqP_nilL, fa]
  | _ => simp [exSs, exS, evE, evEs, evB, Res.bind, Res.out, rd, isiP, truD, truP, leave, addrB]
end K17

namespace K17
open PySem PySem.Spec PyProof.Rows L2 Mi
theorem P_require : Pd "require_address" = some d_require_address := by rfl
theorem P_steps_of : Pd "steps_of" = some d_steps_of := by rfl
theorem P_length_in : Pd "length_in" = some d_length_in := by rfl
theorem P_length_of : Pd "length_of" = some d_length_of := by rfl
theorem P_law_length : Pd "_law_length" = some d__law_length := by rfl
/-- the elements of an address -/
inductive El where
  | one (i : Int)
  | rep (ps : List Int) (t : Nat)
def El.pd : El → PD
  | .one i => .int i
  | .rep ps t => .tuple [.tuple (ps.map .int), .int t]
def El.ok : El → Prop
  | .one i => 0 ≤ i ∧ i ≤ 2
  | .rep ps t => ps ≠ [] ∧ ps.length ≤ 10 ∧ (∀ i ∈ ps, 0 ≤ i ∧ i ≤ 2) ∧ t ≤ 1000000000000000000000000000000
def El.len : El → Nat
  | .one _ => 1
  | .rep ps t => ps.length * t
def El.ex : El → List Int
  | .one i => [i]
  | .rep ps t => (List.replicate t ps).flatten
def tp (es : List El) : PD := .tuple (es.map El.pd)
def lenA (es : List El) : Nat := (es.map El.len).sum
def exA (es : List El) : List Int := es.flatMap El.ex
def okA (es : List El) : Prop := es.length ≤ 100 ∧ ∀ e ∈ es, e.ok
theorem pieceB_ints {ps : List Int} (h1 : ps ≠ []) (h2 : ∀ i ∈ ps, 0 ≤ i ∧ i ≤ 2) : pieceB (.tuple (ps.map .int)) = true := by
  unfold pieceB
  rw [Bool.and_eq_true, List.all_eq_true]
  refine ⟨by cases ps; exact absurd rfl h1; rfl, fun d hd => ?_⟩
  obtain ⟨i, hi, rfl⟩ := List.mem_map.mp hd
  have := h2 i hi
  simp [betw, this]
theorem elB_pd {e : El} (h : e.ok) : elB e.pd = true := by
  cases e with
  | one i =>
    obtain ⟨h1, h2⟩ := h
    simp [El.pd, elB, betw, h1, h2]
  | rep ps t =>
    obtain ⟨h1, h2, h3, h4⟩ := h
    show (pieceB (.tuple (ps.map .int)) && betw (.int t) 0 1000000000000000000000000000000) = true
    rw [pieceB_ints h1 h3]
    simp [betw]
    omega
theorem addrB_tp {es : List El} (h : okA es) : addrB (tp es) = true := by
  unfold addrB tp
  rw [List.all_eq_true]
  intro d hd
  obtain ⟨e, he, rfl⟩ := List.mem_map.mp hd
  exact elB_pd (h.2 e he)
theorem sz_tp {es : List El} (h : okA es) : Sz2 (tp es) := by
  intro ds e
  cases e
  refine ⟨by have := h.1; simp; omega, fun d hd a b ed => ?_⟩
  obtain ⟨e, he, rfl⟩ := List.mem_map.mp hd
  cases e with
  | one i => cases ed
  | rep ps t =>
    cases ed
    intro ds e2
    cases e2
    have := (h.2 _ he).2.1
    simp
    omega
theorem c_require (n : Nat) {es : List El} (h : Hd) (hk : okA es) : callN gc Pd (n + 6) "require_address" [.dat (tp es)] h = .ok (.dat .none) h := by
  rw [call_def P_require rfl]
  simp only [runDef, d_require_address, b_require_address]
  simp [exSs, exS, evT, evE, evEs, Res.bind, Res.out, rd, truD, truP, c_is_address n _ h (sz_tp hk), addrB_tp hk]
theorem mul_small {i : Int} (j : Int) (h : i.natAbs < 2 ^ 64) : mulP (.int i) (.int j) = some (.int (i * j)) := by
  unfold mulP
  dsimp only
  rw [if_pos (.inl h)]
theorem c_steps_of (n : Nat) {e : El} (h : Hd) (hk : e.ok) : callN gc Pd (n + 1) "steps_of" [.dat e.pd] h = .ok (.dat (.int e.len)) h := by
  rw [call_def P_steps_of rfl]
  simp only [runDef, d_steps_of, b_steps_of]
  cases e with
  | one i => simp [El.pd, El.len, exSs, exS, evE, evEs, Res.bind, Res.out, rd, isiP, truD, truP, leave]
  | rep ps t =>
    have i0 : ixP (.tuple [.tuple (ps.map .int), .int t]) (.int 0) = some (.tuple (ps.map .int)) := rfl
    have i1 : ixP (.tuple [.tuple (ps.map .int), .int t]) (.int 1) = some (.int t) := rfl
    have ml := mul_small (i := (ps.length : Int)) t (by have := hk.2.1; omega)
    simp [El.pd, El.len, exSs, exS, evE, evEs, Res.bind, Res.out, rd, rdx, isiP, truD, truP, leave, ofO, i0, i1, rdsOf, Bl.fn, len_tuple, binP, ml]
theorem intsP_map (g : El → Int) : ∀ es : List El, intsP (es.map fun d => .int (g d)) = some (es.map g)
  | [] => rfl
  | d :: r => by simp [intsP, intsP_map g r]
theorem sum_cast : ∀ es : List El, (es.map fun e => (e.len : Int)).sum = (lenA es : Int)
  | [] => rfl
  | e :: r => by
    have := sum_cast r
    simp only [lenA, List.map_cons, List.sum_cons] at this ⊢
    rw [this]
    simp
theorem ev_sum {cf : Str → List D → Hd → Res D} {p : Pt} {it : Itr} {e : E} {l : Mi.Loc} {h : Hd} {es : List El} (hk : okA es) (hI : evI cf gc it l h = .ok ⟨es.map El.pd, none⟩ h)
    (hd : ∀ x ∈ es, ∃ l', bindP p x.pd (wipeL l p.slots) = some l' ∧ evE cf gc e l' h = .ok (.dat (.int x.len)) h) : evE cf gc (.lc false p it .no e) l h = .ok (.dat (.list (es.map fun x => .int x.len))) h := by
  rw [evE, hI]
  simp only [bind_ok]
  have key : ∀ (xs : List El) (acc : List PD), acc.length + xs.length ≤ sizeLine → (∀ x ∈ xs, x ∈ es) → lcRun p ⟨es.map El.pd, none⟩ (evC cf gc .no) (evE cf gc e) l (xs.map El.pd) acc h = .ok (acc ++ xs.map fun x => .int x.len) h := by
    intro xs
    induction xs with
    | nil =>
      intro acc _ _
      simp only [List.map_nil]
      unfold lcRun
      rw [if_pos (stays_none _ h)]
      simp
    | cons x r ih =>
      intro acc hz hm
      obtain ⟨l', h1, h2⟩ := hd x (hm x List.mem_cons_self)
      simp only [List.map_cons]
      simp only [List.length_cons] at hz
      unfold lcRun
      rw [if_pos (stays_none _ h), h1]
      dsimp only
      rw [evC]
      simp only [nox_ok, bind_ok]
      rw [if_pos trivial, h2]
      simp only [nox_ok, bind_ok]
      rw [if_pos (by omega), ih (acc ++ [PyData.int (x.len : Int)]) (by simp; omega) fun y hy => hm y (List.mem_cons_of_mem _ hy)]
      simp
  rw [key es [] (by have := hk.1; rw [sizeLine_eq]; simp; omega) fun x hx => hx]
  rfl
theorem c_length_in (n : Nat) {es : List El} (h : Hd) (hk : okA es) : callN gc Pd (n + 2) "length_in" [.dat (tp es)] h = .ok (.dat (.int (lenA es))) h := by
  rw [call_def P_length_in rfl]
  simp only [runDef, d_length_in, b_length_in]
  have lc : evE (callN gc Pd (n + 1)) gc q0_length_in [some (D.dat (tp es)), none] h = .ok (.dat (.list (es.map fun x => .int x.len))) h := by
    refine ev_sum hk ?_ fun x hx => ⟨_, rfl, ?_⟩
    · simp [evI, evE, Res.bind, seqOf, tp]
    · simp [y0_length_in, evE, evEs, Res.bind, wipeL, Pt.slots, c_steps_of n h (hk.2 x hx)]
  simp [exSs, exS, evE, evEs, Res.bind, Res.out, rd, leave, ofO, lc, rdsOf, Bl.fn, sumP, intsP_map, sum_cast]
theorem c_length_of (n : Nat) {es : List El} (h : Hd) (hk : okA es) : callN gc Pd (n + 7) "length_of" [.dat (tp es)] h = .ok (.dat (.int (lenA es))) h := by
  rw [call_def P_length_of rfl]
  simp only [runDef, d_length_of, b_length_of]
  simp [exSs, exS, evE, evEs, Res.bind, Res.out, leave, c_require n h hk, c_length_in (n + 4) h hk]
end K17

namespace K17
open PySem PySem.Spec PyProof.Rows L2 Mi
theorem P_plain_in : Pd "plain_in" = some d_plain_in := by rfl
theorem P_law_rows : Pd "_law_rows" = some d__law_rows := by rfl
theorem ife_true {cf : Str → List D → Hd → Res D} {c a b : E} {l : Mi.Loc} {h : Hd} {r : Res D} (hc : evE cf gc c l h = .ok (.dat (.bool true)) h) (ha : evE cf gc a l h = r) : evE cf gc (.ife c a b) l h = r := by
  rw [evE, hc, bind_ok, truD_bool, bind_ok, ha]
  exact if_pos rfl
theorem one_sz : 1 ≤ sizeLine := by rw [sizeLine_eq]; omega
theorem zero_sz : 0 ≤ sizeLine := Nat.zero_le _
theorem at_end (h : Hd) (o : Ob) : (h ++ [o])[h.length]? = some o := by simp
theorem set_end (h : Hd) (o o' : Ob) : (h ++ [o]).set h.length o' = h ++ [o'] := by simp
theorem rep_ints (t : Nat) (ps : List Int) : (List.replicate t (ps.map PyData.int)).flatten = ((List.replicate t ps).flatten).map .int := by
  rw [List.map_flatten, List.map_replicate]
theorem len_ex (e : El) : e.ex.length = e.len := by
  cases e with
  | one i => rfl
  | rep ps t => simp [El.ex, El.len, Nat.mul_comm]
theorem len_exA (es : List El) : (exA es).length = lenA es := by
  induction es with
  | nil => rfl
  | cons e r ih =>
    simp only [exA, lenA, List.flatMap_cons, List.length_append, List.map_cons, List.sum_cons] at ih ⊢
    rw [len_ex, ih]
theorem exA_cons (e : El) (r : List El) : exA (e :: r) = e.ex ++ exA r := rfl
theorem mul_tup {ps : List Int} {t : Nat} (h1 : ps ≠ []) (h2 : ps.length ≤ 1000) (h3 : t ≤ 1000) : mulP (.tuple (ps.map .int)) (.int t) = some (.tuple (((List.replicate t ps).flatten).map .int)) := by
  unfold mulP
  dsimp only
  rw [if_pos ⟨by simpa using h1, by omega, by omega, by simpa using h2⟩, Int.toNat_natCast, rep_ints]
theorem mul_lst {ps : List Int} {t : Nat} (h2 : ps.length ≤ 1000) (h3 : t ≤ 1000) : mulP (.list (ps.map .int)) (.int t) = some (.list (((List.replicate t ps).flatten).map .int)) := by
  unfold mulP
  dsimp only
  have : (ps.map PyData.int).length * ((t : Int)).toNat ≤ 1000 * 1000 := Nat.mul_le_mul (by simpa using h2) (by omega)
  rw [if_pos ⟨by omega, by omega, by rw [sizeLine_eq]; omega⟩, Int.toNat_natCast, rep_ints]
/-- few repetitions -/
def few (es : List El) : Prop := ∀ e ∈ es, match e with
  | .one _ => True
  | .rep _ t => t ≤ 1000
theorem plain_turn (n : Nat) (A : Option D) {e : El} (hk : e.ok) (hf : few [e]) (h : Hd) (acc : List PD) (hz : acc.length + e.len ≤ 100000) :
    exSs (callN gc Pd n) gc w0_plain_in [A, some (.ref h.length), some (.dat e.pd)] (h ++ [.lst acc]) = .nx [A, some (.ref h.length), some (.dat e.pd)] (h ++ [.lst (acc ++ e.ex.map .int)]) := by
  cases e with
  | one i =>
    have hz' : acc.length + 1 ≤ sizeLine := by rw [sizeLine_eq]; simp [El.len] at hz; omega
    simp [w0_plain_in, El.pd, El.ex, exSs, exS, evE, evEs, Res.bind, Res.out, rd, rdx, isiP, truD, truP, datsOf, isLst, mthRun, lstRun, at_end, set_end, hz', one_sz]
  | rep ps t =>
    obtain ⟨h1, h2, h3, h4⟩ := hk
    have hf : t ≤ 1000 := hf _ List.mem_cons_self
    have i0 : ixP (.tuple [.tuple (ps.map .int), .int t]) (.int 0) = some (.tuple (ps.map .int)) := rfl
    have i1 : ixP (.tuple [.tuple (ps.map .int), .int t]) (.int 1) = some (.int t) := rfl
    have hz' : acc.length + (((List.replicate t ps).flatten).map PyData.int).length ≤ sizeLine := by
      have := len_ex (.rep ps t)
      simp only [El.ex, El.len] at this hz
      rw [List.length_map, this, sizeLine_eq]
      omega
    simp only [w0_plain_in, El.pd, El.ex, exSs, exS, evE, evEs, Res.bind, Res.out, rd, rdx, isiP, truD, truP, isLst, mthRun, lstRun, at_end, set_end, ofO, i0, i1, binP, mul_tup h1 (by omega) hf, hz', List.getElem?_cons_zero, List.getElem?_cons_succ, if_true, Option.bind]
section
variable {cf : Str → List D → Hd → Res D}
theorem rr_ix0 {l : Mi.Loc} {h : Hd} {a b : PD} {i : Nat} (hl : l[i]? = some (some (.dat (.tuple [a, b])))) : evE cf gc (.ix (.var i) (.con (.int 0))) l h = .ok (.dat a) h := by
  have i0 : ixP (.tuple [a, b]) (.int 0) = some a := rfl
  simp only [evE, Res.bind, rd, ofO, hl, i0]
theorem rr_ix1 {l : Mi.Loc} {h : Hd} {a b : PD} {i : Nat} (hl : l[i]? = some (some (.dat (.tuple [a, b])))) : evE cf gc (.ix (.var i) (.con (.int 1))) l h = .ok (.dat b) h := by
  have i1 : ixP (.tuple [a, b]) (.int 1) = some b := rfl
  simp only [evE, Res.bind, rd, ofO, hl, i1]
theorem rr_isi {l : Mi.Loc} {h : Hd} {ds : List PD} {i : Nat} (hl : l[i]? = some (some (.dat (.tuple ds)))) : evE cf gc (.isi (.var i) .tuple) l h = .ok (.dat (.bool true)) h := by
  simp only [evE, Res.bind, rd, hl, isiP]
theorem rr_lis {l : Mi.Loc} {h : Hd} {ds : List PD} {e : E} (he : evE cf gc e l h = .ok (.dat (.tuple ds)) h) : evE cf gc (.lis false e) l h = .ok (.dat (.list ds)) h := by
  simp only [evE, he, Res.bind, rd, mkL, Bool.false_eq_true, if_false]
theorem rr_mul {l : Mi.Loc} {h : Hd} {x y z : PD} {a b : E} (ha : evE cf gc a l h = .ok (.dat x) h) (hb : evE cf gc b l h = .ok (.dat y) h) (hm : mulP x y = some z) : evE cf gc (.bin .Mult a b) l h = .ok (.dat z) h := by
  simp only [evE, ha, hb, Res.bind, rdx, binP, hm, ofO]
theorem rr_var {l : Mi.Loc} {h : Hd} {d : D} {i : Nat} (hl : l[i]? = some (some d)) : evE cf gc (.var i) l h = .ok d h := by
  simp only [evE, hl]
theorem ext_exp {l : Mi.Loc} {h : Hd} {acc ys : List PD} {a b : E} (ha : evE cf gc a l (h ++ [.lst acc]) = .ok (.ref h.length) (h ++ [.lst acc])) (hb : evE cf gc b l (h ++ [.lst acc]) = .ok (.dat (.list ys)) (h ++ [.lst acc])) (hz : acc.length + ys.length ≤ sizeLine) :
    exSs cf gc (.cons (.exp (.mth .extend a (.cons b .nil))) .nil) l (h ++ [.lst acc]) = .nx l (h ++ [.lst (acc ++ ys)]) := by
  simp only [exSs, exS, evE, evEs, ha, hb, Res.bind, Res.out, isLst, at_end, mthRun, lstRun, rdx, hz, set_end, if_true]
end
theorem rows_turn (n : Nat) (A : Option D) {e : El} (hk : e.ok) (hf : few [e]) (h : Hd) (acc : List PD) (hz : acc.length + e.len ≤ 100000) :
    exSs (callN gc Pd n) gc w0__law_rows [A, some (.ref h.length), some (.dat e.pd)] (h ++ [.lst acc]) = .nx [A, some (.ref h.length), some (.dat e.pd)] (h ++ [.lst (acc ++ e.ex.map .int)]) := by
  cases e with
  | one i =>
    have hz' : acc.length + 1 ≤ sizeLine := by rw [sizeLine_eq]; simp [El.len] at hz; omega
    simp [w0__law_rows, El.pd, El.ex, exSs, exS, evE, evEs, Res.bind, Res.out, rd, rdx, isiP, truD, truP, datsOf, isLst, mthRun, lstRun, at_end, set_end, hz', mkL, one_sz]
  | rep ps t =>
    obtain ⟨h1, h2, h3, h4⟩ := hk
    clear h4
    have hf : t ≤ 1000 := hf _ List.mem_cons_self
    have hz' : acc.length + (((List.replicate t ps).flatten).map PyData.int).length ≤ sizeLine := by
      have := len_ex (.rep ps t)
      simp only [El.ex, El.len] at this hz
      rw [List.length_map, this, sizeLine_eq]
      omega
    exact ext_exp (rr_var rfl) (ife_true (rr_isi (ds := [.tuple (ps.map .int), .int t]) rfl) (rr_mul (rr_lis (rr_ix0 (b := .int t) rfl)) (rr_ix1 (a := .tuple (ps.map .int)) (b := .int t) rfl) (mul_lst (by omega) hf))) hz'
/-- the loop of both -/
theorem ext_loop {b : Mi.Loc → Hd → Out} {items0 : List PD} {A : Option D} {h : Hd} (hb : ∀ (e : El) (acc : List PD), e.ok → few [e] → acc.length + e.len ≤ 100000 → b [A, some (.ref h.length), some (.dat e.pd)] (h ++ [.lst acc]) = .nx [A, some (.ref h.length), some (.dat e.pd)] (h ++ [.lst (acc ++ e.ex.map .int)])) :
    ∀ (es : List El) (x : Option D) (acc : List PD), (∀ e ∈ es, e.ok) → few es → acc.length + lenA es ≤ 100000 → ∃ y, forRun (.nm 2) ⟨items0, none⟩ b (es.map El.pd) [A, some (.ref h.length), x] (h ++ [.lst acc]) = .nx [A, some (.ref h.length), y] (h ++ [.lst (acc ++ (exA es).map .int)])
  | [], x, acc, _, _, _ => by
    refine ⟨x, ?_⟩
    simp only [List.map_nil]
    unfold forRun
    rw [if_pos (stays_none _ _)]
    simp [exA]
  | e :: r, x, acc, hk, hf, hz => by
    have hz1 : acc.length + e.len ≤ 100000 := by simp only [lenA, List.map_cons, List.sum_cons] at hz; omega
    obtain ⟨y, hy⟩ := ext_loop hb r (some (.dat e.pd)) (acc ++ e.ex.map .int) (fun z hz => hk z (List.mem_cons_of_mem _ hz)) (fun z hz => hf z (List.mem_cons_of_mem _ hz)) (by
      simp only [lenA, List.map_cons, List.sum_cons, List.length_append, List.length_map, len_ex] at hz ⊢
      omega)
    refine ⟨y, ?_⟩
    simp only [List.map_cons]
    unfold forRun
    rw [if_pos (stays_none _ _)]
    simp only [bindP, List.set_cons_succ, List.set_cons_zero]
    rw [hb e acc (hk e List.mem_cons_self) (fun z hz => hf z (by simp at hz; subst hz; exact List.mem_cons_self)) hz1]
    dsimp only
    rw [hy, exA_cons]
    simp
theorem c_plain_in (n : Nat) {es : List El} (h : Hd) (hk : okA es) (hf : few es) (hz : lenA es ≤ 1000) : callN gc Pd (n + 1) "plain_in" [.dat (tp es)] h = .ok (.dat (.tuple ((exA es).map .int))) h := by
  rw [call_def P_plain_in rfl]
  simp only [runDef, d_plain_in, b_plain_in]
  obtain ⟨y, hy⟩ := ext_loop (items0 := es.map El.pd) (A := some (.dat (tp es))) (h := h) (fun e acc => fun h1 h2 h3 => plain_turn n _ h1 h2 h acc h3) es none [] hk.2 hf (by simp; omega)
  have fr : exS (callN gc Pd n) gc f0_plain_in [some (.dat (tp es)), some (.ref h.length), none] (h ++ [.lst []]) = .nx [some (.dat (tp es)), some (.ref h.length), y] (h ++ [.lst ((exA es).map .int)]) := by
    rw [f0_plain_in, exS]
    simp only [evI, evE, tp, Res.bind, Res.out, seqOf, List.getElem?_cons_zero]
    simpa [tp] using hy
  simp [exSs, exS, evE, evEs, Res.bind, Res.out, datsOf, mkL, fr, rdsOf, rd, at_end, Ob.py, Bl.fn, tupleP, ofO, leave]
theorem c_law_rows (n : Nat) {es : List El} (h : Hd) (hk : okA es) (hf : few es) (hz : lenA es ≤ 1000) : callN gc Pd (n + 1) "_law_rows" [.dat (tp es)] h = .ok (.dat (.tuple ((exA es).map .int))) h := by
  rw [call_def P_law_rows rfl]
  simp only [runDef, d__law_rows, b__law_rows]
  obtain ⟨y, hy⟩ := ext_loop (items0 := es.map El.pd) (A := some (.dat (tp es))) (h := h) (fun e acc => fun h1 h2 h3 => rows_turn n _ h1 h2 h acc h3) es none [] hk.2 hf (by simp; omega)
  have fr : exS (callN gc Pd n) gc f0__law_rows [some (.dat (tp es)), some (.ref h.length), none] (h ++ [.lst []]) = .nx [some (.dat (tp es)), some (.ref h.length), y] (h ++ [.lst ((exA es).map .int)]) := by
    rw [f0__law_rows, exS]
    simp only [evI, evE, tp, Res.bind, Res.out, seqOf, List.getElem?_cons_zero]
    simpa [tp] using hy
  simp [exSs, exS, evE, evEs, Res.bind, Res.out, datsOf, mkL, fr, rdsOf, rd, at_end, Ob.py, Bl.fn, tupleP, ofO, leave]
end K17

namespace K17
open PySem PySem.Spec PyProof.Rows L2 Mi
theorem P_plain : Pd "plain" = some d_plain := by rfl
theorem P_cut_in : Pd "cut_in" = some d_cut_in := by rfl
theorem P_cut : Pd "cut" = some d_cut := by rfl
theorem P_law_cut : Pd "_law_cut" = some d__law_cut := by rfl
theorem len_mem {e : El} : ∀ {es : List El}, e ∈ es → e.len ≤ lenA es
  | x :: r, h => by
    simp only [lenA, List.map_cons, List.sum_cons]
    rcases List.mem_cons.mp h with rfl | h
    · omega
    · have := len_mem h
      simp only [lenA] at this
      omega
theorem few_of {es : List El} (hk : okA es) (hz : lenA es ≤ 1000) : few es := by
  intro e he
  cases e with
  | one i => trivial
  | rep ps t =>
    have h1 := (hk.2 _ he).1
    have h2 := len_mem he
    have h3 : t ≤ ps.length * t := Nat.le_mul_of_pos_left t (List.length_pos_iff.mpr h1)
    show t ≤ 1000
    simp only [El.len] at h2
    omega
theorem c_plain (n : Nat) {es : List El} (h : Hd) (hk : okA es) (hz : lenA es ≤ 1000) : callN gc Pd (n + 7) "plain" [.dat (tp es)] h = .ok (.dat (.tuple ((exA es).map .int))) h := by
  rw [call_def P_plain rfl]
  simp only [runDef, d_plain, b_plain]
  have g : gtP (.int (lenA es)) (.int 1000) = some (.bool false) := by simp [gtP, ltP]; omega
  simp [exSs, exS, evT, evE, evEs, Res.bind, Res.out, leave, c_require n h hk, c_length_in (n + 4) h hk, g_steps, ofO, rd, cmpP, g, truD, truP, c_plain_in (n + 5) h hk (few_of hk hz) hz]
theorem c_plain_long (n : Nat) {es : List El} (h : Hd) (hk : okA es) (hz : 1000 < lenA es) : callN gc Pd (n + 7) "plain" [.dat (tp es)] h = .exc ⟨"TooMany", [("limit", .int 1000)]⟩ h := by
  rw [call_def P_plain rfl]
  simp only [runDef, d_plain, b_plain]
  have g : gtP (.int (lenA es)) (.int 1000) = some (.bool true) := by simp [gtP, ltP]; omega
  simp [exSs, exS, evT, evE, evEs, Res.bind, Res.out, leave, c_require n h hk, c_length_in (n + 4) h hk, g_steps, ofO, rd, cmpP, g, truD, truP]
theorem c_law_length (n : Nat) {es : List El} (h : Hd) (hk : okA es) : callN gc Pd (n + 1) "_law_length" [.dat (tp es)] h = .ok (.dat (.int (lenA es))) h := by
  rw [call_def P_law_length rfl]
  simp only [runDef, d__law_length, b__law_length]
  have lc : evE (callN gc Pd n) gc q0__law_length [some (D.dat (tp es)), none] h = .ok (.dat (.list (es.map fun x => .int x.len))) h := by
    refine ev_sum hk ?_ fun x hx => ⟨_, rfl, ?_⟩
    · simp [evI, evE, Res.bind, seqOf, tp]
    · cases x with
      | one i => simp [y0__law_length, El.pd, El.len, exSs, exS, evT, evE, evEs, evB, evO, Res.bind, Res.out, rd, rdx, isiP, truD, truP, leave, ofO, rdsOf, datsOf, Bl.fn, cmpP, binP, isLst, mthRun, lstRun, at_end, set_end, mkL, wipeL, Pt.slots]
      | rep ps t =>
        have i0 : ixP (.tuple [.tuple (ps.map .int), .int t]) (.int 0) = some (.tuple (ps.map .int)) := rfl
        have i1 : ixP (.tuple [.tuple (ps.map .int), .int t]) (.int 1) = some (.int t) := rfl
        have ml := mul_small (i := (ps.length : Int)) t (by have := (hk.2 _ hx).2.1; omega)
        simp [y0__law_length, El.pd, El.len, exSs, exS, evT, evE, evEs, evB, evO, Res.bind, Res.out, rd, rdx, isiP, truD, truP, leave, ofO, rdsOf, datsOf, Bl.fn, cmpP, binP, isLst, mthRun, lstRun, at_end, set_end, mkL, wipeL, Pt.slots, i0, i1, len_tuple, ml]
  simp [exSs, exS, evE, evEs, Res.bind, Res.out, rd, leave, ofO, lc, rdsOf, Bl.fn, sumP, intsP_map, sum_cast]
/-! ### cut -/
def cutE (e : El) (n : Nat) : List El := match e with
  | .one _ => []
  | .rep ps _ => (if ps.length ≤ n then [.rep ps (n / ps.length)] else []) ++ (ps.take (n % ps.length)).map .one
def cutA : List El → Nat → List El
  | [], _ => []
  | e :: r, n => if n = 0 then [] else if e.len ≤ n then e :: cutA r (n - e.len) else cutE e n
theorem cutA_zero (es : List El) : cutA es 0 = [] := by cases es <;> simp [cutA]
theorem fdiv_nat {a b : Nat} (h : 0 < b) (hb : b ≤ 10) : fdivP (.int a) (.int b) = some (.int ((a / b : Nat) : Int)) := by
  unfold fdivP
  dsimp only
  have : b.log2 ≤ b := Nat.log2_le_self b
  rw [if_pos ⟨by omega, by simp; omega⟩]
  simp
theorem mod_nat {a b : Nat} (h : 0 < b) : modP (.int a) (.int b) = some (.int ((a % b : Nat) : Int)) := by
  unfold modP
  dsimp only
  rw [if_pos (by omega)]
  simp
theorem cutL_take {α : Type} (xs : List α) (k : Nat) : cutL xs none (some (k : Int)) = xs.take k := by
  unfold cutL
  rw [HT.sIx_none, HT.sIx_nat]
  simp
theorem cutL_drop {α : Type} (xs : List α) (k : Nat) : cutL xs (some (k : Int)) none = xs.drop k := by
  unfold cutL
  rw [HT.sIx_none, HT.sIx_nat]
  by_cases h : k ≤ xs.length
  · rw [Nat.min_eq_left h, List.take_of_length_le (by simp)]
  · rw [Nat.min_eq_right (by omega), List.drop_of_length_le (by omega), List.drop_of_length_le (by omega)]
    simp
theorem eq_nat0 (a : Nat) : eqP (.int (a : Int)) (.int 0) = some (.bool (decide (a = 0))) := by
  rw [eq_ints]
  by_cases h : a = 0 <;> simp [h]
theorem le_nat (a b : Nat) : leP (.int (a : Int)) (.int (b : Int)) = some (.bool (decide (a ≤ b))) := by
  simp [leP]
theorem ge_nat (a b : Nat) : geP (.int (a : Int)) (.int (b : Int)) = some (.bool (decide (b ≤ a))) := by
  simp [geP, leP]
theorem gt_nat0 (a : Nat) : gtP (.int (a : Int)) (.int 0) = some (.bool (decide (0 < a))) := by
  simp [gtP, ltP]
theorem cutE_pd (ps : List Int) (t n : Nat) : (cutE (.rep ps t) n).map El.pd = (if ps.length ≤ n then [PyData.tuple [.tuple (ps.map .int), .int ((n / ps.length : Nat) : Int)]] else []) ++ (ps.map PyData.int).take (n % ps.length) := by
  unfold cutE
  rw [List.map_append, List.map_map, ← List.map_take]
  congr 1
  split <;> rfl
theorem cut_turn0 (n : Nat) (A B x P : Option D) (h : Hd) (acc : List PD) :
    exSs (callN gc Pd (n + 1)) gc w0_cut_in [A, B, x, some (.ref h.length), some (.dat (.int (0 : Nat))), P] (h ++ [.lst acc]) = .bk [A, B, x, some (.ref h.length), some (.dat (.int (0 : Nat))), P] (h ++ [.lst acc]) := by
  simp [w0_cut_in, exSs, exS, evT, evE, Res.bind, Res.out, rd, cmpP, eq_ints, ofO, truD, truP]
theorem cut_turn1 (n : Nat) (A B P : Option D) {e : El} (hk : e.ok) (h : Hd) (acc : List PD) (left : Nat) (h0 : left ≠ 0) (hl : e.len ≤ left) (hz : acc.length < 100000) :
    exSs (callN gc Pd (n + 1)) gc w0_cut_in [A, B, some (.dat e.pd), some (.ref h.length), some (.dat (.int left)), P] (h ++ [.lst acc]) = .nx [A, B, some (.dat e.pd), some (.ref h.length), some (.dat (.int (left - e.len : Nat))), P] (h ++ [.lst (acc ++ [e.pd])]) := by
  have hz' : acc.length < sizeLine := by rw [sizeLine_eq]; omega
  have e0 : eqP (.int (left : Int)) (.int 0) = some (.bool false) := by rw [eq_nat0]; simp [h0]
  have e1 : leP (.int (e.len : Int)) (.int (left : Int)) = some (.bool true) := by rw [le_nat]; simp [hl]
  have e2 : (left : Int) - (e.len : Int) = ((left - e.len : Nat) : Int) := by omega
  simp [w0_cut_in, exSs, exS, evT, evE, evEs, evB, evO, Res.bind, Res.out, rd, rdx, isiP, truD, truP, leave, ofO, rdsOf, datsOf, Bl.fn, cmpP, binP, isLst, mthRun, lstRun, at_end, set_end, mkL, e0, e1, c_steps_of n _ hk, augP, augI, hz', e2]
theorem cut_turn2 (n : Nat) (A B P : Option D) {ps : List Int} {t : Nat} (hk : (El.rep ps t).ok) (h : Hd) (acc : List PD) (left : Nat) (h0 : left ≠ 0) (hl : left < (El.rep ps t).len) (hz : acc.length < 100000) :
    ∃ P', exSs (callN gc Pd (n + 1)) gc w0_cut_in [A, B, some (.dat (El.rep ps t).pd), some (.ref h.length), some (.dat (.int left)), P] (h ++ [.lst acc]) = .nx [A, B, some (.dat (El.rep ps t).pd), some (.ref h.length), some (.dat (.int (0 : Nat))), P'] (h ++ [.lst (acc ++ (cutE (.rep ps t) left).map El.pd)]) := by
  have k1 := hk.1
  have k2 := hk.2.1
  have k3 : 0 < ps.length := List.length_pos_iff.mpr k1
  have e0 : eqP (.int (left : Int)) (.int 0) = some (.bool false) := by rw [eq_nat0]; simp [h0]
  have e1 : leP (.int ((El.rep ps t).len : Int)) (.int (left : Int)) = some (.bool false) := by rw [le_nat]; simp [hl]
  have e3 := fdiv_nat (a := left) k3 k2
  have e4 := mod_nat (a := left) k3
  have i0 : ixP (.tuple [.tuple (ps.map .int), .int t]) (.int 0) = some (.tuple (ps.map .int)) := rfl
  have s0 : slP (.tuple (ps.map .int)) none (some ((left % ps.length : Nat) : Int)) = some (.tuple ((ps.map .int).take (left % ps.length))) := by
    rw [slP, cutL_take]
  have lt : ((ps.map PyData.int).take (left % ps.length)).length ≤ 10 := by simp; omega
  have so := c_steps_of n (h ++ [.lst acc]) hk
  refine ⟨some (.dat (.tuple (ps.map .int))), ?_⟩
  rw [cutE_pd]
  simp only [El.pd] at so ⊢
  have z1 : acc.length < sizeLine := by rw [sizeLine_eq]; omega
  have z2 : ∀ b : List PD, b.length ≤ 1 → acc.length + b.length + ((ps.map PyData.int).take (left % ps.length)).length ≤ sizeLine := by
    intro b hb
    rw [sizeLine_eq]
    omega
  have z3 := z2 [] (by simp)
  have z4 := z2 [.none] (by simp)
  simp only [List.length_nil, List.length_cons, Nat.add_zero, Nat.zero_add] at z3 z4
  have s2 : 2 ≤ sizeLine := by rw [sizeLine_eq]; omega
  by_cases hg : ps.length ≤ left
  · have e5 : geP (.int (left : Int)) (.int (ps.length : Int)) = some (.bool true) := by rw [ge_nat]; simp [hg]
    rw [if_pos hg]
    simp only [w0_cut_in, exSs, exS, evT, evE, evEs, evB, evO, Res.bind, Res.out, rd, rdx, isiP, truD, truP, leave, ofO, rdsOf, datsOf, Bl.fn, cmpP, binP, isLst, mthRun, lstRun, at_end, set_end, mkL, List.getElem?_cons_zero, List.getElem?_cons_succ, Option.bind, if_true, Bool.false_eq_true, if_false, List.set_cons_succ, List.set_cons_zero, e0, so, e1, i0, len_tuple, List.length_map, e5, e3, e4, s0, List.length_cons, List.length_nil, Nat.zero_add, s2, z1, Option.map, List.length_append, z4, List.append_assoc, List.singleton_append, List.cons_append, List.nil_append]
    rfl
  · have e5 : geP (.int (left : Int)) (.int (ps.length : Int)) = some (.bool false) := by rw [ge_nat]; simp [hg]
    rw [if_neg hg]
    simp only [w0_cut_in, exSs, exS, evT, evE, evEs, evB, evO, Res.bind, Res.out, rd, rdx, isiP, truD, truP, leave, ofO, rdsOf, datsOf, Bl.fn, cmpP, binP, isLst, mthRun, lstRun, at_end, set_end, mkL, List.getElem?_cons_zero, List.getElem?_cons_succ, Option.bind, if_true, Bool.false_eq_true, if_false, List.set_cons_succ, List.set_cons_zero, e0, so, e1, i0, len_tuple, List.length_map, e5, e3, e4, s0, List.length_cons, List.length_nil, Nat.zero_add, s2, z1, Option.map, z3, List.nil_append]
    rfl
end K17

namespace K17
open PySem PySem.Spec PyProof.Rows L2 Mi
/-- the size of what is cut -/
theorem cutA_len : ∀ (es : List El) (n : Nat), (∀ e ∈ es, e.ok) → (cutA es n).length ≤ es.length + 11
  | [], n, _ => by simp [cutA]
  | e :: r, n, hk => by
    unfold cutA
    split
    · simp
    · split
      · have := cutA_len r (n - e.len) fun x hx => hk x (List.mem_cons_of_mem _ hx)
        simp only [List.length_cons]
        omega
      · have he := hk e List.mem_cons_self
        cases e with
        | one i => simp [cutE]
        | rep ps t =>
          have k2 := he.2.1
          unfold cutE
          simp only [List.length_append, List.length_map, List.length_take, List.length_cons]
          have : (if ps.length ≤ n then [El.rep ps (n / ps.length)] else []).length ≤ 1 := by split <;> simp
          omega
theorem cut_loop0 (n : Nat) {A B : Option D} {h : Hd} {items0 : List PD} (es : List El) (x P : Option D) (acc : List PD) :
    ∃ x' y P', forRun (.nm 2) ⟨items0, none⟩ (exSs (callN gc Pd (n + 1)) gc w0_cut_in) (es.map El.pd) [A, B, x, some (.ref h.length), some (.dat (.int (0 : Nat))), P] (h ++ [.lst acc]) = .nx [A, B, x', some (.ref h.length), y, P'] (h ++ [.lst acc]) := by
  cases es with
  | nil =>
    refine ⟨x, some (.dat (.int (0 : Nat))), P, ?_⟩
    simp only [List.map_nil]
    unfold forRun
    rw [if_pos (stays_none _ _)]
  | cons e r =>
    refine ⟨some (.dat e.pd), some (.dat (.int (0 : Nat))), P, ?_⟩
    simp only [List.map_cons]
    unfold forRun
    rw [if_pos (stays_none _ _)]
    simp only [bindP, List.set_cons_succ, List.set_cons_zero]
    rw [cut_turn0]
theorem cut_loop (n : Nat) {A B : Option D} {h : Hd} {items0 : List PD} : ∀ (es : List El) (x P : Option D) (acc : List PD) (left : Nat), (∀ e ∈ es, e.ok) → acc.length + es.length + 20 ≤ 100000 →
    ∃ x' y P', forRun (.nm 2) ⟨items0, none⟩ (exSs (callN gc Pd (n + 1)) gc w0_cut_in) (es.map El.pd) [A, B, x, some (.ref h.length), some (.dat (.int left)), P] (h ++ [.lst acc]) = .nx [A, B, x', some (.ref h.length), y, P'] (h ++ [.lst (acc ++ (cutA es left).map El.pd)])
  | [], x, P, acc, left, _, _ => by
    refine ⟨x, some (.dat (.int left)), P, ?_⟩
    simp only [List.map_nil]
    unfold forRun
    rw [if_pos (stays_none _ _)]
    simp [cutA]
  | e :: r, x, P, acc, left, hk, hz => by
    simp only [List.length_cons] at hz
    have he := hk e List.mem_cons_self
    have hr : ∀ e ∈ r, e.ok := fun z hz => hk z (List.mem_cons_of_mem _ hz)
    simp only [List.map_cons]
    unfold forRun
    rw [if_pos (stays_none _ _)]
    simp only [bindP, List.set_cons_succ, List.set_cons_zero]
    by_cases h0 : left = 0
    · subst h0
      rw [cut_turn0]
      refine ⟨some (.dat e.pd), some (.dat (.int (0 : Nat))), P, ?_⟩
      simp [cutA]
    · by_cases hl : e.len ≤ left
      · rw [cut_turn1 n A B P he h acc left h0 hl (by omega)]
        obtain ⟨x', y, P', hh⟩ := cut_loop n r (some (.dat e.pd)) P (acc ++ [e.pd]) (left - e.len) hr (by simp; omega)
        refine ⟨x', y, P', ?_⟩
        dsimp only
        rw [hh]
        simp [cutA, h0, hl]
      · cases e with
        | one i => exact absurd (show (1 : Nat) ≤ left by omega) hl
        | rep ps t =>
          obtain ⟨P1, h1⟩ := cut_turn2 n A B P he h acc left h0 (by omega) (by omega)
          rw [h1]
          obtain ⟨x', y, P', hh⟩ := cut_loop0 n (items0 := items0) (A := A) (B := B) (h := h) r (some (.dat (El.rep ps t).pd)) P1 (acc ++ (cutE (.rep ps t) left).map El.pd)
          refine ⟨x', y, P', ?_⟩
          dsimp only
          rw [hh]
          simp [cutA, h0, hl]
theorem c_cut_in (n : Nat) {es : List El} (h : Hd) (hk : okA es) (m : Nat) : callN gc Pd (n + 2) "cut_in" [.dat (tp es), .dat (.int m)] h = .ok (.dat (tp (cutA es m))) h := by
  rw [call_def P_cut_in rfl]
  simp only [runDef, d_cut_in, b_cut_in]
  obtain ⟨x', y, P', hy⟩ := cut_loop n (items0 := es.map El.pd) (A := some (.dat (tp es))) (B := some (.dat (.int m))) (h := h) es none none [] m hk.2 (by have := hk.1; simp; omega)
  have fr : exS (callN gc Pd (n + 1)) gc f0_cut_in [some (.dat (tp es)), some (.dat (.int m)), none, some (.ref h.length), some (.dat (.int m)), none] (h ++ [.lst []]) = .nx [some (.dat (tp es)), some (.dat (.int m)), x', some (.ref h.length), y, P'] (h ++ [.lst ((cutA es m).map El.pd)]) := by
    rw [f0_cut_in, exS]
    simp only [evI, evE, tp, Res.bind, Res.out, seqOf, List.getElem?_cons_zero]
    simpa [tp] using hy
  show _ = Res.ok (D.dat (PyData.tuple ((cutA es m).map El.pd))) h
  simp [exSs, exS, evE, evEs, Res.bind, Res.out, datsOf, mkL, setAll, fr, rdsOf, rd, at_end, Ob.py, Bl.fn, tupleP, ofO, leave]
theorem betw_nat {a b : Nat} (h : a ≤ b) : betw (.int a) 0 b = true := by simp [betw]; omega
theorem c_cut (n : Nat) {es : List El} (h : Hd) (hk : okA es) (m : Nat) (hm : m ≤ lenA es) : callN gc Pd (n + 7) "cut" [.dat (tp es), .dat (.int m)] h = .ok (.dat (tp (cutA es m))) h := by
  rw [call_def P_cut rfl]
  simp only [runDef, d_cut, b_cut]
  simp [exSs, exS, evT, evE, evEs, Res.bind, Res.out, leave, c_require n h hk, c_length_in (n + 4) h hk, ofO, rd, c_is_between, betw_nat hm, truD, truP, c_cut_in (n + 4) h hk m]
/-! ### the law's own -/
theorem ok_one {e : El} (hk : e.ok) : okA [e] := ⟨by simp, fun x hx => by simp at hx; subst hx; exact hk⟩
theorem lcut_turn (n : Nat) (A B P Q : Option D) {e : El} (hk : e.ok) (h : Hd) (acc : List PD) (left : Nat) (hz : acc.length < 100000) :
    ∃ P' Q', exSs (callN gc Pd (n + 1)) gc w0__law_cut [A, B, some (.dat e.pd), some (.dat (.tuple acc)), some (.dat (.int left)), P, Q] h = .nx [A, B, some (.dat e.pd), some (.dat (.tuple (acc ++ (if left = 0 then [] else if e.len ≤ left then [e.pd] else (cutE e left).map El.pd)))), some (.dat (.int ((left - e.len : Nat) : Int))), P', Q'] h := by
  have ll := c_law_length n h (ok_one hk)
  have l1 : lenA [e] = e.len := by simp [lenA]
  rw [l1] at ll
  have t1 : tp [e] = .tuple [e.pd] := rfl
  rw [t1] at ll
  have mx : maxP [.int 0, .int ((left : Int) - (e.len : Int))] = some (.int ((left - e.len : Nat) : Int)) := by
    simp only [maxP]
    split
    · congr 2; omega
    · congr 2; omega
  have s1 : 1 ≤ sizeLine := one_sz
  have sb : subP (.int (left : Int)) (.int (e.len : Int)) = some (.int ((left : Int) - (e.len : Int))) := rfl
  by_cases h0 : left = 0
  · have e0 : gtP (.int (left : Int)) (.int 0) = some (.bool false) := by rw [gt_nat0]; simp [h0]
    refine ⟨some (.dat (.int e.len)), Q, ?_⟩
    rw [if_pos h0]
    simp only [w0__law_cut, exSs, exS, evT, evE, evEs, evB, evO, Res.bind, Res.out, rd, rdx, isiP, truD, truP, leave, ofO, rdsOf, datsOf, Bl.fn, cmpP, binP, isLst, mthRun, lstRun, at_end, set_end, mkL, List.getElem?_cons_zero, List.getElem?_cons_succ, Option.bind, if_true, Bool.false_eq_true, if_false, List.set_cons_succ, List.set_cons_zero, e0, Option.map, List.length_cons, List.length_nil, Nat.zero_add, s1, ll, sb, mx, List.append_nil]
  · have e0 : gtP (.int (left : Int)) (.int 0) = some (.bool true) := by rw [gt_nat0]; simp; omega
    rw [if_neg h0]
    by_cases hl : e.len ≤ left
    · have e1 : leP (.int (e.len : Int)) (.int (left : Int)) = some (.bool true) := by rw [le_nat]; simp [hl]
      have ad : addP (.tuple acc) (.tuple [e.pd]) = some (.tuple (acc ++ [e.pd])) := by
        unfold addP
        dsimp only
        rw [if_pos (by rw [sizeLine_eq]; simp; omega)]
      refine ⟨some (.dat (.int e.len)), Q, ?_⟩
      rw [if_pos hl]
      simp only [w0__law_cut, exSs, exS, evT, evE, evEs, evB, evO, Res.bind, Res.out, rd, rdx, isiP, truD, truP, leave, ofO, rdsOf, datsOf, Bl.fn, cmpP, binP, isLst, mthRun, lstRun, at_end, set_end, mkL, List.getElem?_cons_zero, List.getElem?_cons_succ, Option.bind, if_true, Bool.false_eq_true, if_false, List.set_cons_succ, List.set_cons_zero, e0, e1, ad, Option.map, List.length_cons, List.length_nil, Nat.zero_add, s1, ll, sb, mx]
    · rw [if_neg hl]
      cases e with
      | one i => exact absurd (show (1 : Nat) ≤ left by omega) hl
      | rep ps t =>
        have k1 := hk.1
        have k2 := hk.2.1
        have k3 : 0 < ps.length := List.length_pos_iff.mpr k1
        have e1 : leP (.int ((El.rep ps t).len : Int)) (.int (left : Int)) = some (.bool false) := by rw [le_nat]; simp; omega
        have e3 := fdiv_nat (a := left) k3 k2
        have i0 : ixP (.tuple [.tuple (ps.map .int), .int t]) (.int 0) = some (.tuple (ps.map .int)) := rfl
        have s0 : slP (.tuple (ps.map .int)) none (some ((left % ps.length : Nat) : Int)) = some (.tuple ((ps.map .int).take (left % ps.length))) := by
          rw [slP, cutL_take]
        have m0 : mulP (.int ((left / ps.length : Nat) : Int)) (.int (ps.length : Int)) = some (.int (((left / ps.length : Nat) : Int) * (ps.length : Int))) := by
          unfold mulP
          dsimp only
          rw [if_pos (.inr (by omega))]
        have u0 : subP (.int (left : Int)) (.int (((left / ps.length : Nat) : Int) * (ps.length : Int))) = some (.int ((left % ps.length : Nat) : Int)) := by
          have := Nat.div_add_mod left ps.length
          have e : ((left / ps.length : Nat) : Int) * (ps.length : Int) = ((ps.length * (left / ps.length) : Nat) : Int) := by rw [Nat.mul_comm]; simp
          rw [e]
          simp only [subP]
          congr 2
          omega
        have lt : ((ps.map PyData.int).take (left % ps.length)).length ≤ 10 := by simp; omega
        have s2 : 2 ≤ sizeLine := by rw [sizeLine_eq]; omega
        have s3 : (0 : Nat) ≤ sizeLine := Nat.zero_le _
        have ad : ∀ xs ys : List PD, xs.length ≤ 100100 → ys.length ≤ 100 → addP (.tuple xs) (.tuple ys) = some (.tuple (xs ++ ys)) := fun xs ys h1 h2 => by
          unfold addP
          dsimp only
          rw [if_pos (by rw [sizeLine_eq]; omega)]
        rw [cutE_pd]
        simp only [El.pd] at ll ⊢
        refine ⟨some (.dat (.int (El.rep ps t).len)), some (.dat (.tuple (ps.map .int))), ?_⟩
        by_cases hg : ps.length ≤ left
        · have e5 : geP (.int (left : Int)) (.int (ps.length : Int)) = some (.bool true) := by rw [ge_nat]; simp [hg]
          rw [if_pos hg]
          have a1 := ad acc [PyData.tuple [.tuple (ps.map .int), .int ((left / ps.length : Nat) : Int)]] (by omega) (by simp)
          have a2 := ad (acc ++ [PyData.tuple [.tuple (ps.map .int), .int ((left / ps.length : Nat) : Int)]]) ((ps.map PyData.int).take (left % ps.length)) (by simp; omega) (by omega)
          simp only [w0__law_cut, exSs, exS, evT, evE, evEs, evB, evO, Res.bind, Res.out, rd, rdx, isiP, truD, truP, leave, ofO, rdsOf, datsOf, Bl.fn, cmpP, binP, isLst, mthRun, lstRun, at_end, set_end, mkL, List.getElem?_cons_zero, List.getElem?_cons_succ, Option.bind, if_true, Bool.false_eq_true, if_false, List.set_cons_succ, List.set_cons_zero, e0, e1, Option.map, List.length_cons, List.length_nil, Nat.zero_add, s1, s2, ll, sb, mx, i0, len_tuple, List.length_map, e5, e3, m0, u0, s0, a1, a2, List.append_assoc]
        · have e5 : geP (.int (left : Int)) (.int (ps.length : Int)) = some (.bool false) := by rw [ge_nat]; simp [hg]
          rw [if_neg hg]
          have a1 := ad acc [] (by omega) (by simp)
          rw [List.append_nil] at a1
          have a2 := ad acc ((ps.map PyData.int).take (left % ps.length)) (by omega) (by omega)
          simp only [w0__law_cut, exSs, exS, evT, evE, evEs, evB, evO, Res.bind, Res.out, rd, rdx, isiP, truD, truP, leave, ofO, rdsOf, datsOf, Bl.fn, cmpP, binP, isLst, mthRun, lstRun, at_end, set_end, mkL, List.getElem?_cons_zero, List.getElem?_cons_succ, Option.bind, if_true, Bool.false_eq_true, if_false, List.set_cons_succ, List.set_cons_zero, e0, e1, Option.map, List.length_cons, List.length_nil, Nat.zero_add, s1, s2, s3, ll, sb, mx, i0, len_tuple, List.length_map, e5, e3, m0, u0, s0, a1, a2, List.nil_append]
end K17

namespace K17
open PySem PySem.Spec PyProof.Rows L2 Mi
theorem lcut_loop (n : Nat) {A B : Option D} {h : Hd} {items0 : List PD} : ∀ (es : List El) (x P Q : Option D) (acc : List PD) (left : Nat), (∀ e ∈ es, e.ok) → acc.length + (cutA es left).length < 100000 →
    ∃ x' y P' Q', forRun (.nm 2) ⟨items0, none⟩ (exSs (callN gc Pd (n + 1)) gc w0__law_cut) (es.map El.pd) [A, B, x, some (.dat (.tuple acc)), some (.dat (.int left)), P, Q] h = .nx [A, B, x', some (.dat (.tuple (acc ++ (cutA es left).map El.pd))), y, P', Q'] h
  | [], x, P, Q, acc, left, _, _ => by
    refine ⟨x, some (.dat (.int left)), P, Q, ?_⟩
    simp only [List.map_nil]
    unfold forRun
    rw [if_pos (stays_none _ _)]
    simp [cutA]
  | e :: r, x, P, Q, acc, left, hk, hz => by
    have he := hk e List.mem_cons_self
    have hr : ∀ e ∈ r, e.ok := fun z hz => hk z (List.mem_cons_of_mem _ hz)
    simp only [List.map_cons]
    unfold forRun
    rw [if_pos (stays_none _ _)]
    simp only [bindP, List.set_cons_succ, List.set_cons_zero]
    obtain ⟨P1, Q1, h1⟩ := lcut_turn n A B P Q he h acc left (by omega)
    rw [h1]
    dsimp only
    have key : ∃ l', (if left = 0 then [] else if e.len ≤ left then [e.pd] else (cutE e left).map El.pd) = l' ∧ l' ++ (cutA r (left - e.len)).map El.pd = (cutA (e :: r) left).map El.pd := by
      refine ⟨_, rfl, ?_⟩
      by_cases h0 : left = 0
      · subst h0
        simp [cutA, cutA_zero]
      · by_cases hl : e.len ≤ left
        · simp [cutA, h0, hl]
        · have : left - e.len = 0 := by omega
          simp [cutA, h0, hl, this, cutA_zero]
    obtain ⟨l', k1, k2⟩ := key
    rw [k1]
    have k3 := congrArg List.length k2
    simp only [List.length_append, List.length_map] at k3
    obtain ⟨x', y, P', Q', hh⟩ := lcut_loop n r (some (.dat e.pd)) P1 Q1 (acc ++ l') (left - e.len) hr (by simp; omega)
    refine ⟨x', y, P', Q', ?_⟩
    rw [hh, List.append_assoc, k2]
theorem c_law_cut (n : Nat) {es : List El} (h : Hd) (hk : okA es) (m : Nat) : callN gc Pd (n + 2) "_law_cut" [.dat (tp es), .dat (.int m)] h = .ok (.dat (tp (cutA es m))) h := by
  rw [call_def P_law_cut rfl]
  simp only [runDef, d__law_cut, b__law_cut]
  obtain ⟨x', y, P', Q', hy⟩ := lcut_loop n (items0 := es.map El.pd) (A := some (.dat (tp es))) (B := some (.dat (.int m))) (h := h) es none none none [] m hk.2 (by have := hk.1; have := cutA_len es m hk.2; simp; omega)
  have fr : exS (callN gc Pd (n + 1)) gc f0__law_cut [some (.dat (tp es)), some (.dat (.int m)), none, some (.dat (.tuple [])), some (.dat (.int m)), none, none] h = .nx [some (.dat (tp es)), some (.dat (.int m)), x', some (.dat (.tuple ((cutA es m).map El.pd))), y, P', Q'] h := by
    rw [f0__law_cut, exS]
    simp only [evI, evE, tp, Res.bind, Res.out, seqOf, List.getElem?_cons_zero]
    simpa [tp] using hy
  show _ = Res.ok (D.dat (PyData.tuple ((cutA es m).map El.pd))) h
  simp [exSs, exS, evE, evEs, Res.bind, Res.out, datsOf, setAll, fr, leave]
/-! ### what is cut -/
theorem rep_take (ps : List Int) (t q r : Nat) (hq : q < t) (hr : r ≤ ps.length) : ((List.replicate t ps).flatten).take (ps.length * q + r) = (List.replicate q ps).flatten ++ ps.take r := by
  obtain ⟨s, rfl⟩ : ∃ s, t = q + (s + 1) := ⟨t - q - 1, by omega⟩
  rw [← List.replicate_append_replicate, List.flatten_append, List.take_append]
  have hl : ((List.replicate q ps).flatten).length = ps.length * q := by simp [Nat.mul_comm]
  rw [List.take_of_length_le (by omega), hl, List.replicate_succ, List.flatten_cons]
  have : ps.length * q + r - ps.length * q = r := by omega
  rw [this, List.take_append_of_le_length hr]
theorem ones_ex (ps : List Int) : exA (ps.map .one) = ps := by
  induction ps with
  | nil => rfl
  | cons i r ih => rw [List.map_cons, exA_cons, ih]; rfl
theorem exA_append (a b : List El) : exA (a ++ b) = exA a ++ exA b := by simp [exA]
theorem cutE_ex {e : El} (hk : e.ok) {n : Nat} (h : n < e.len) (h0 : n ≠ 0) : exA (cutE e n) = e.ex.take n := by
  cases e with
  | one i => simp only [El.len] at h; omega
  | rep ps t =>
    have k3 : 0 < ps.length := List.length_pos_iff.mpr hk.1
    simp only [El.len] at h
    have hm := Nat.mod_lt n k3
    have hd := Nat.div_add_mod n ps.length
    have hq : n / ps.length < t := by
      rw [Nat.div_lt_iff_lt_mul k3, Nat.mul_comm]
      exact h
    have := rep_take ps t (n / ps.length) (n % ps.length) hq (by omega)
    rw [hd] at this
    show _ = ((List.replicate t ps).flatten).take n
    rw [this]
    unfold cutE
    simp only [exA_append, ones_ex]
    congr 1
    split
    · simp [exA, El.ex]
    · rw [Nat.div_eq_of_lt (by omega)]
      rfl
theorem cutA_ex : ∀ (es : List El) (n : Nat), (∀ e ∈ es, e.ok) → n ≤ lenA es → exA (cutA es n) = (exA es).take n
  | [], n, _, _ => by simp [cutA, exA]
  | e :: r, n, hk, hn => by
    have he := hk e List.mem_cons_self
    have hr : ∀ e ∈ r, e.ok := fun z hz => hk z (List.mem_cons_of_mem _ hz)
    simp only [lenA, List.map_cons, List.sum_cons] at hn
    unfold cutA
    split
    · rename_i h0; subst h0; simp [exA]
    · rename_i h0
      split
      · rename_i hl
        rw [exA_cons, exA_cons, cutA_ex r (n - e.len) hr (by simp only [lenA]; omega), List.take_append, len_ex, List.take_of_length_le (l := e.ex) (by rw [len_ex]; exact hl)]
      · rename_i hl
        rw [cutE_ex he (by omega) h0, exA_cons, List.take_append_of_le_length (by rw [len_ex]; omega)]
theorem cutA_lenA {es : List El} {n : Nat} (hk : ∀ e ∈ es, e.ok) (hn : n ≤ lenA es) : lenA (cutA es n) = n := by
  rw [← len_exA, cutA_ex es n hk hn, List.length_take, len_exA]
  omega
theorem cutE_ok {e : El} (hk : e.ok) {n : Nat} (h : n < e.len) : ∀ x ∈ cutE e n, x.ok := by
  cases e with
  | one i => intro x hx; cases hx
  | rep ps t =>
    obtain ⟨h1, h2, h3, h4⟩ := hk
    have k3 : 0 < ps.length := List.length_pos_iff.mpr h1
    simp only [El.len] at h
    intro x hx
    unfold cutE at hx
    rcases List.mem_append.mp hx with hx | hx
    · split at hx
      · have e : x = .rep ps (n / ps.length) := by simpa using hx
        subst e
        have hq : n / ps.length < t := by
          rw [Nat.div_lt_iff_lt_mul k3, Nat.mul_comm]
          exact h
        exact ⟨h1, h2, h3, by omega⟩
      · cases hx
    · obtain ⟨i, hi, rfl⟩ := List.mem_map.mp hx
      exact h3 i (List.mem_of_mem_take hi)
theorem cutA_ok : ∀ (es : List El) (n : Nat), (∀ e ∈ es, e.ok) → ∀ x ∈ cutA es n, x.ok
  | [], n, _ => by intro x hx; cases hx
  | e :: r, n, hk => by
    have he := hk e List.mem_cons_self
    have hr : ∀ e ∈ r, e.ok := fun z hz => hk z (List.mem_cons_of_mem _ hz)
    unfold cutA
    split
    · intro x hx; cases hx
    · split
      · intro x hx
        rcases List.mem_cons.mp hx with rfl | hx
        · exact he
        · exact cutA_ok r _ hr x hx
      · exact cutE_ok he (by omega)
/-! ### repr and equality -/
theorem int_short {i : Int} (h0 : 0 ≤ i) (h : i < 10 ^ 40) : (PyData.int i).leavesShort 40 = true ∧ (PyData.int i).weight ≤ 200 ∧ (PyData.int i).showable = true := by
  refine ⟨?_, ?_, ?_⟩
  · simp only [PyData.leavesShort, PyData.shown]
    exact decide_eq_true (toString_length_le h0 (by decide) h)
  · simp only [PyData.weight]
    split
    · omega
    · have : i.natAbs.log2 < 199 := by
        rw [Nat.log2_lt (by simp at *; omega)]
        have e : (10 : Int) ^ 40 < 2 ^ 199 := by decide
        omega
      omega
  · simp only [PyData.showable]
    apply decide_eq_true
    by_cases hi : i.natAbs = 0
    · rw [hi]; decide
    · rw [Nat.log2_lt hi]
      have e : (10 : Nat) ^ 40 < 2 ^ 1920 := by decide +kernel
      exact Nat.lt_trans (by omega) e
end K17

namespace K17
open PySem PySem.Spec PyProof.Rows L2 Mi
theorem shaped_of {d : PyData} (h1 : d.canLay0 = true) (h2 : d.depth ≤ 64) : SeqAt.shaped d = true := by
  unfold SeqAt.shaped
  rw [h1, decide_eq_true h2]
  rfl
theorem ints_lay : ∀ xs : List Int, PyData.canLayAll0 (xs.map .int) = true ∧ PyData.depthAll (xs.map .int) = 0
  | [] => ⟨rfl, rfl⟩
  | i :: r => by
    obtain ⟨h1, h2⟩ := ints_lay r
    simp [PyData.canLayAll0, PyData.canLay0, PyData.depthAll, PyData.depth, h1, h2]
theorem ints_eqv : ∀ xs : List Int, PyData.eqvAll (xs.map .int) (xs.map .int) = true
  | [] => rfl
  | i :: r => by simp [PyData.eqvAll, PyData.eqv, ints_eqv r]
theorem ne_tup (xs : List Int) : neP (.tuple (xs.map .int)) (.tuple (xs.map .int)) = some (.bool false) := by
  have s : SeqAt.shaped (.tuple (xs.map .int)) = true := shaped_of (by simp [PyData.canLay0, ints_lay]) (by simp [PyData.depth, ints_lay])
  unfold neP eqOk
  rw [s]
  simp [PyData.eqv, ints_eqv]
theorem ints_short : ∀ xs : List Int, (∀ i ∈ xs, 0 ≤ i ∧ i < 10 ^ 40) → PyData.leavesShortAll 40 (xs.map .int) = true ∧ PyData.weightAll (xs.map .int) ≤ 201 * xs.length ∧ PyData.showableAll (xs.map .int) = true
  | [], _ => ⟨rfl, by simp [PyData.weightAll], rfl⟩
  | i :: r, h => by
    obtain ⟨h1, h2, h3⟩ := ints_short r fun x hx => h x (List.mem_cons_of_mem _ hx)
    obtain ⟨k1, k2, k3⟩ := int_short (h i List.mem_cons_self).1 (h i List.mem_cons_self).2
    simp only [List.map_cons, PyData.leavesShortAll, PyData.weightAll, PyData.showableAll, h1, h3, k1, k3, List.length_cons]
    refine ⟨rfl, ?_, rfl⟩
    omega
theorem el_short {e : El} (hk : e.ok) : e.pd.leavesShort 40 = true ∧ e.pd.weight ≤ 3000 ∧ e.pd.showable = true ∧ e.pd.canLay0 = true ∧ e.pd.depth ≤ 2 := by
  cases e with
  | one i =>
    obtain ⟨h1, h2⟩ := hk
    obtain ⟨k1, k2, k3⟩ := int_short h1 (by omega)
    exact ⟨k1, by simp only [El.pd]; omega, k3, rfl, by simp [El.pd, PyData.depth]⟩
  | rep ps t =>
    obtain ⟨h1, h2, h3, h4⟩ := hk
    obtain ⟨k1, k2, k3⟩ := int_short (i := (t : Int)) (by omega) (by omega)
    obtain ⟨j1, j2, j3⟩ := ints_short ps fun i hi => ⟨(h3 i hi).1, by have := (h3 i hi).2; omega⟩
    obtain ⟨l1, l2⟩ := ints_lay ps
    simp only [El.pd, PyData.leavesShort, PyData.leavesShortAll, PyData.weight, PyData.weightAll, PyData.showable, PyData.showableAll, PyData.canLay0, PyData.canLayAll0, PyData.depth, PyData.depthAll, j1, j3, l1, l2] at k1 k2 k3 ⊢
    refine ⟨by simpa using k1, by omega, by simpa using k3, rfl, by omega⟩
theorem els_short : ∀ es : List El, (∀ e ∈ es, e.ok) → PyData.leavesShortAll 40 (es.map El.pd) = true ∧ PyData.weightAll (es.map El.pd) ≤ 3001 * es.length ∧ PyData.showableAll (es.map El.pd) = true ∧ PyData.canLayAll0 (es.map El.pd) = true ∧ PyData.depthAll (es.map El.pd) ≤ 2
  | [], _ => ⟨rfl, by simp [PyData.weightAll], rfl, rfl, by simp [PyData.depthAll]⟩
  | e :: r, h => by
    obtain ⟨h1, h2, h3, h4, h5⟩ := els_short r fun x hx => h x (List.mem_cons_of_mem _ hx)
    obtain ⟨k1, k2, k3, k4, k5⟩ := el_short (h e List.mem_cons_self)
    simp only [List.map_cons, PyData.leavesShortAll, PyData.weightAll, PyData.showableAll, PyData.canLayAll0, PyData.depthAll, h1, h3, h4, k1, k3, k4, List.length_cons]
    refine ⟨rfl, ?_, rfl, rfl, ?_⟩ <;> omega
theorem repr_tp {es : List El} (hk : okA es) : reprP [tp es] = some (.str (tp es).shown) := by
  obtain ⟨h1, h2, h3, h4, h5⟩ := els_short es hk.2
  unfold reprP
  dsimp only
  have l := PyData.shown_le 40 (by decide) (tp es) (by simpa [tp, PyData.leavesShort] using h1)
  have w : (tp es).weight = PyData.weightAll (es.map El.pd) := by simp [tp, PyData.weight]
  rw [w] at l
  have := hk.1
  rw [if_pos ⟨shaped_of (by simpa [tp, PyData.canLay0] using h4) (by simp only [tp, PyData.depth]; omega), by simpa [tp, PyData.showable] using h3, by rw [sizeLine_eq]; omega⟩]
theorem repr_int {i : Int} (h0 : 0 ≤ i) (h : i < 10 ^ 40) : reprP [.int i] = some (.str (PyData.int i).shown) := by
  obtain ⟨k1, k2, k3⟩ := int_short h0 h
  unfold reprP
  dsimp only
  have l := PyData.shown_le 40 (by decide) _ k1
  rw [if_pos ⟨shaped_of rfl (by simp [PyData.depth]), k3, by rw [sizeLine_eq]; omega⟩]
theorem repr_bool (b : Bool) : reprP [.bool b] = some (.str (PyData.bool b).shown) := by
  unfold reprP
  dsimp only
  rw [if_pos ⟨shaped_of rfl (by simp [PyData.depth]), rfl, by rw [sizeLine_eq]; cases b <;> decide +kernel⟩]
theorem ne_str (s : Str) : neP (.str s) (.str s) = some (.bool false) := by
  simp [neP, eqOk, scalP, plainV, scal, PyData.eqv]
/-! ### the stream of draws -/
/-- place k holds a stream -/
def SH (h : Hd) (k : Nat) : Prop := ∃ a b c : Int, 0 ≤ a ∧ h[k]? = some (.lst [.int a, .int b, .int c])
/-- h' is h with another stream at k -/
def Up (h : Hd) (k : Nat) (h' : Hd) : Prop := ∃ a b c : Int, 0 ≤ a ∧ h' = h.set k (.lst [.int a, .int b, .int c])
theorem SH.lt {h : Hd} {k : Nat} (s : SH h k) : k < h.length := by
  obtain ⟨a, b, c, _, e⟩ := s
  exact (List.getElem?_eq_some_iff.mp e).1
theorem SH.up {h : Hd} {k : Nat} (s : SH h k) : Up h k h := by
  obtain ⟨a, b, c, h0, e⟩ := s
  refine ⟨a, b, c, h0, ?_⟩
  obtain ⟨h1, h2⟩ := List.getElem?_eq_some_iff.mp e
  rw [← h2]
  simp
theorem Up.sh {h h' : Hd} {k : Nat} (u : Up h k h') (hk : k < h.length) : SH h' k := by
  obtain ⟨a, b, c, h0, rfl⟩ := u
  exact ⟨a, b, c, h0, by simp [hk]⟩
theorem Up.len {h h' : Hd} {k : Nat} (u : Up h k h') : h'.length = h.length := by
  obtain ⟨a, b, c, h0, rfl⟩ := u
  simp
theorem Up.trans {h h' h2 : Hd} {k : Nat} (u : Up h k h') (v : Up h' k h2) : Up h k h2 := by
  obtain ⟨a, b, c, h0, rfl⟩ := u
  obtain ⟨a', b', c', h0', rfl⟩ := v
  exact ⟨a', b', c', h0', by simp⟩
theorem Up.app {h H' : Hd} {k : Nat} {o : Ob} (hk : k < h.length) (u : Up (h ++ [o]) k H') : ∃ h', Up h k h' ∧ H' = h' ++ [o] := by
  obtain ⟨a, b, c, h0, rfl⟩ := u
  exact ⟨_, ⟨a, b, c, h0, rfl⟩, by rw [List.set_append_left _ _ hk]⟩
theorem SH.app {h : Hd} {k : Nat} (s : SH h k) (o : Ob) : SH (h ++ [o]) k := by
  obtain ⟨a, b, c, h0, e⟩ := s
  exact ⟨a, b, c, h0, by rw [List.getElem?_append_left (SH.lt ⟨a, b, c, h0, e⟩), e]⟩
theorem take_up {h h' : Hd} {k : Nat} (u : Up h k h') : h'.take h.length = h' := by rw [← u.len]; simp
theorem P_stream : Pd "_law_stream" = some d__law_stream := by rfl
theorem P_draw : Pd "_law_draw" = some d__law_draw := by rfl
theorem P_pick : Pd "_law_pick" = some d__law_pick := by rfl
theorem md {i j : Int} (h : 0 < j) : modP (.int i) (.int j) = some (.int (i % j)) := by
  unfold modP
  dsimp only
  rw [if_pos h]
theorem fd {i j : Int} (h : 0 < j) (h2 : j < 2 ^ 200) : fdivP (.int i) (.int j) = some (.int (i / j)) := by
  unfold fdivP
  dsimp only
  have : j.natAbs.log2 < 9000 := by
    rw [Nat.log2_lt (by omega)]
    exact Nat.lt_trans (show j.natAbs < 2 ^ 200 by omega) (by decide +kernel)
  rw [if_pos ⟨h, this⟩]
theorem mul_right {i : Int} (j : Int) (h : j.natAbs < 2 ^ 64) : mulP (.int i) (.int j) = some (.int (i * j)) := by
  unfold mulP
  dsimp only
  rw [if_pos (.inr h)]
theorem c_draw (n : Nat) {h : Hd} {k : Nat} (s : SH h k) {hi : Int} (h0 : 0 < hi) (h1 : hi < 2 ^ 200) : ∃ r h', callN gc Pd (n + 1) "_law_draw" [.ref k, .dat (.int hi)] h = .ok (.dat (.int r)) h' ∧ 0 ≤ r ∧ r < hi ∧ Up h k h' := by
  have hk := s.lt
  obtain ⟨a, b, c, ha, e⟩ := s
  rw [call_def P_draw rfl]
  simp only [runDef, d__law_draw, b__law_draw]
  have i0 : ixP (.list [.int a, .int b, .int c]) (.int 0) = some (.int a) := rfl
  have i1 : ixP (.list [.int a, .int b, .int c]) (.int 1) = some (.int b) := rfl
  have i2 : ixP (.list [.int a, .int b, .int c]) (.int 2) = some (.int c) := rfl
  have st : ∀ o : Ob, (h.set k o)[k]? = some o := fun o => by simp [hk]
  have tk : ∀ o : Ob, (h.set k o).take h.length = h.set k o := fun o => by rw [List.take_of_length_le (by simp)]
  by_cases h2 : 0 < a
  · have g : gtP (.int a) (.int 0) = some (.bool true) := by simp [gtP, ltP, h2]
    refine ⟨a % hi, h.set k (.lst [.int (a / hi), .int b, .int c]), ?_, Int.emod_nonneg _ (by omega), Int.emod_lt_of_pos _ h0, ⟨a / hi, b, c, Int.ediv_nonneg ha (by omega), rfl⟩⟩
    have nx : L2.ixN 3 0 = some 0 := by decide
    simp [exSs, exS, evT, evE, evEs, evB, evO, Res.bind, Res.out, rd, rdx, isiP, truD, truP, leave, ofO, rdsOf, datsOf, Bl.fn, cmpP, binP, isLst, mthRun, lstRun, at_end, set_end, mkL, e, Ob.py, i0, g, intP, md h0, fd h0 h1, putRun, nx, tk]
  · have ea : a = 0 := by omega
    subst ea
    have g : gtP (.int 0) (.int 0) = some (.bool false) := by simp [gtP, ltP]
    have nx : L2.ixN 3 2 = some 2 := by decide
    have M : (0 : Int) < 2305843009213693951 := by decide
    have M2 : (0 : Int) < 2305843009213693921 := by decide
    have M3 : (0 : Int) < 2305843009213693907 := by decide
    have j0 : ixP (.list [.int 0, .int b, .int (c + 1)]) (.int 0) = some (.int 0) := rfl
    have j1 : ixP (.list [.int 0, .int b, .int (c + 1)]) (.int 1) = some (.int b) := rfl
    have j2 : ixP (.list [.int 0, .int b, .int (c + 1)]) (.int 2) = some (.int (c + 1)) := rfl
    have m1 : mulP (.int 1000303) (.int (c + 1)) = some (.int (1000303 * (c + 1))) := mul_small _ (by decide)
    have m2 : mulP (.int 6911) (.int (c + 1)) = some (.int (6911 * (c + 1))) := mul_small _ (by decide)
    have ab : ((b + 1000303 * (c + 1)) % 2305843009213693951).natAbs < 2 ^ 64 := by
      have h1 := Int.emod_nonneg (b + 1000303 * (c + 1)) (show (2305843009213693951 : Int) ≠ 0 by decide)
      have h2 := Int.emod_lt_of_pos (b + 1000303 * (c + 1)) M
      omega
    have m3 := fun i : Int => mul_right (i := i) _ ab
    generalize hx : (b + 1000303 * (c + 1)) % 2305843009213693951 = x at ab m3
    have fx : ∀ y : Int, fdivP (.int y) (.int 8192) = some (.int (y / 8192)) := fun y => fd (by decide) (by decide)
    refine ⟨((x * x % 2305843009213693921 * x + 6911 * (c + 1)) % 2305843009213693907 / 8192) % hi, h.set k (.lst [.int 0, .int b, .int (c + 1)]), ?_, Int.emod_nonneg _ (by omega), Int.emod_lt_of_pos _ h0, ⟨0, b, c + 1, by omega, rfl⟩⟩
    simp [exSs, exS, evT, evE, evEs, evB, evO, Res.bind, Res.out, rd, rdx, isiP, truD, truP, leave, ofO, rdsOf, datsOf, Bl.fn, cmpP, binP, isLst, mthRun, lstRun, at_end, set_end, mkL, e, Ob.py, i0, i2, g, intP, md h0, md M, md M2, md M3, fx, putRun, nx, addP, st, tk, j0, j1, j2, m1, m2, hx, m3]
end K17

namespace K17
open PySem PySem.Spec PyProof.Rows L2 Mi
theorem P_address : Pd "_law_address" = some d__law_address := by rfl
theorem at_nat {α : Type} {xs : List α} {r : Int} (h0 : 0 ≤ r) (h : r.toNat < xs.length) : atI xs r = some xs[r.toNat] := by
  unfold atI L2.ixN
  rw [if_pos h0, if_pos (by omega)]
  simp [h]
theorem len_list (ds : List PD) : lenP [.list ds] = some (.int ds.length) := rfl
theorem c_pick (n : Nat) {h : Hd} {k : Nat} (s : SH h k) {items : List PD} (h0 : items ≠ []) (h1 : items.length ≤ 1000) : ∃ x ∈ items, ∃ h', callN gc Pd (n + 2) "_law_pick" [.ref k, .dat (.list items)] h = .ok (.dat x) h' ∧ Up h k h' := by
  have hp := List.length_pos_iff.mpr h0
  obtain ⟨r, h', e, r0, r1, u⟩ := c_draw n s (hi := items.length) (by omega) (by omega)
  have hr : r.toNat < items.length := by omega
  refine ⟨items[r.toNat], List.getElem_mem hr, h', ?_, u⟩
  rw [call_def P_pick rfl]
  simp only [runDef, d__law_pick, b__law_pick]
  have ix : ixP (.list items) (.int r) = some items[r.toNat] := at_nat r0 hr
  simp [exSs, exS, evT, evE, evEs, evB, evO, Res.bind, Res.out, rd, rdx, isiP, truD, truP, leave, ofO, rdsOf, datsOf, Bl.fn, cmpP, binP, isLst, mthRun, lstRun, at_end, set_end, mkL, len_list, e, ix, take_up u]
/-! ### the stream is made -/
def p60 : Int := 10 ^ 60
def p600 : Int := 10 ^ 600
def p18 : Int := 10 ^ 18
theorem pw60 : powP (.int 10) (.int 60) = some (.int p60) := pow_of (by decide +kernel) (by decide +kernel)
theorem pw600 : powP (.int p60) (.int 10) = some (.int p600) := pow_of (by decide +kernel) (by decide +kernel)
theorem pw18 : powP (.int 10) (.int 18) = some (.int p18) := pow_of (by decide +kernel) (by decide +kernel)
theorem p600_pos : 0 < p600 := by decide +kernel
theorem abs_int (c : Int) : absP [.int c] = some (.int (if c < 0 then -c else c)) := rfl
theorem int_int (c : Int) : intP [.int c] = some (.int c) := rfl
theorem int_bool (c : Bool) : intP [.bool c] = some (.int (if c then 1 else 0)) := rfl
theorem add_ints (i j : Int) : addP (.int i) (.int j) = some (.int (i + j)) := rfl
theorem sub_ints (i j : Int) : subP (.int i) (.int j) = some (.int (i - j)) := rfl
theorem lt_ints (i j : Int) : ltP (.int i) (.int j) = some (.bool (decide (i < j))) := rfl
theorem max_ints (i j : Int) : maxP [.int i, .int j] = some (.int (if j > i then j else i)) := rfl
theorem min_ints (i j : Int) : minP [.int i, .int j] = some (.int (if j < i then j else i)) := rfl
def sTail : Ss := match b__law_stream with
  | .cons _ (.cons _ r) => r
  | r => r
theorem stream_tail (cf : Str → List D → Hd → Res D) (A : Option D) (i c : Int) (h : Hd) : ∃ a b : Int, 0 ≤ a ∧ exSs cf gc sTail [A, some (.dat (.int i)), some (.dat (.int c)), none, none] h = .rt (.ref h.length) (h ++ [.lst [.int a, .int b, .int 0]]) := by
  generalize hg : (if c < 0 then -c else c) % p600 = g
  have m1 : ∀ x : Int, modP (.int x) (.int 2147483423) = some (.int (x % 2147483423)) := fun x => md (by decide)
  have m2 : ∀ x : Int, modP (.int x) (.int 2147483399) = some (.int (x % 2147483399)) := fun x => md (by decide)
  have m3 : modP (.int (if c < 0 then -c else c)) (.int p600) = some (.int g) := by rw [md p600_pos, hg]
  have u1 : ∀ x : Int, mulP (.int x) (.int 45121) = some (.int (x * 45121)) := fun x => mul_right _ (by decide)
  have u2 : ∀ x : Int, mulP (.int 2017) (.int x) = some (.int (2017 * x)) := fun x => mul_small _ (by decide)
  have u3 : ∀ x : Int, mulP (.int 5) (.int x) = some (.int (5 * x)) := fun x => mul_small _ (by decide)
  have s3 : 3 ≤ sizeLine := by rw [sizeLine_eq]; omega
  refine ⟨if g - p18 > 0 then g - p18 else 0, (g % 2147483423 * 45121 + 2017 * i + 5 * (if decide (c < 0) then 1 else 0) + 23) % 2147483399, by split <;> omega, ?_⟩
  simp only [sTail, b__law_stream, exSs, exS, evT, evE, evEs, evB, evO, Res.bind, Res.out, rd, rdx, isiP, truD, truP, leave, ofO, rdsOf, datsOf, Bl.fn, cmpP, binP, isLst, mthRun, lstRun, at_end, set_end, mkL, List.getElem?_cons_zero, List.getElem?_cons_succ, Option.bind, if_true, Bool.false_eq_true, if_false, List.set_cons_succ, List.set_cons_zero, Option.map, List.length_cons, List.length_nil, Nat.zero_add, pw60, pw600, pw18, abs_int, int_int, int_bool, add_ints, sub_ints, lt_ints, max_ints, m1, m2, m3, u1, u2, u3, s3]
theorem c_stream (n : Nat) (ns : List Int) (i : Nat) (h : Hd) : ∃ a b : Int, 0 ≤ a ∧ callN gc Pd (n + 1) "_law_stream" [.scr ns, .dat (.int i)] h = .ok (.ref h.length) (h ++ [.lst [.int a, .int b, .int 0]]) := by
  have u1 : mulP (.int 19) (.int i) = some (.int (19 * i)) := mul_small _ (by decide)
  have key : ∃ c : Int, exSs (callN gc Pd n) gc b__law_stream [some (.scr ns), some (.dat (.int i)), none, none, none] h = exSs (callN gc Pd n) gc sTail [some (.scr ns), some (.dat (.int i)), some (.dat (.int c)), none, none] h := by
    by_cases hi : i < ns.length
    · refine ⟨ns[i], ?_⟩
      have l1 : ltP (.int (i : Int)) (.int ((ns.map PyData.int).length : Int)) = some (.bool true) := by rw [lt_ints]; simp [hi]
      have x1 : ixP (.list (ns.map .int)) (.int (i : Int)) = some (.int ns[i]) := by
        have := at_nat (xs := ns.map PyData.int) (r := (i : Int)) (by omega) (by simpa using hi)
        simpa [ixP] using this
      rw [sTail, b__law_stream]
      rw [exSs]
      simp only [exS, evT, evE, evEs, Res.bind, Res.out, rd, rdx, rdsOf, ofO, binP, cmpP, Bl.fn, List.getElem?_cons_zero, List.getElem?_cons_succ, u1, add_ints, List.set_cons_succ, List.set_cons_zero]
      rw [exSs]
      simp only [exS, exSs, evT, evE, evEs, Res.bind, Res.out, rd, rdx, rdsOf, ofO, binP, cmpP, Bl.fn, List.getElem?_cons_zero, List.getElem?_cons_succ, len_list, l1, truD, truP, Option.bind, if_true, x1, List.set_cons_succ, List.set_cons_zero]
    · refine ⟨19 * i + 5, ?_⟩
      have l1 : ltP (.int (i : Int)) (.int ((ns.map PyData.int).length : Int)) = some (.bool false) := by rw [lt_ints]; simp; omega
      rw [sTail, b__law_stream]
      rw [exSs]
      simp only [exS, evT, evE, evEs, Res.bind, Res.out, rd, rdx, rdsOf, ofO, binP, cmpP, Bl.fn, List.getElem?_cons_zero, List.getElem?_cons_succ, u1, add_ints, List.set_cons_succ, List.set_cons_zero]
      rw [exSs]
      simp only [exS, exSs, evT, evE, evEs, Res.bind, Res.out, rd, rdx, rdsOf, ofO, binP, cmpP, Bl.fn, List.getElem?_cons_zero, List.getElem?_cons_succ, len_list, l1, truD, truP, Option.bind, Bool.false_eq_true, if_false, List.set_cons_succ, List.set_cons_zero]
  obtain ⟨c, ec⟩ := key
  obtain ⟨a, b, ha, et⟩ := stream_tail (callN gc Pd n) (some (.scr ns)) i c h
  refine ⟨a, b, ha, ?_⟩
  rw [call_def P_stream rfl]
  have es : ([D.scr ns, D.dat (.int i)].map some ++ List.replicate (d__law_stream.size - [D.scr ns, D.dat (.int i)].length) none) = [some (D.scr ns), some (.dat (.int i)), none, none, none] := rfl
  unfold runDef
  rw [es]
  show (match exSs (callN gc Pd n) gc b__law_stream [some (.scr ns), some (.dat (.int i)), none, none, none] h with
    | .nx _ h1 => _
    | .rt d h1 => leave d__law_stream.keep h.length h1 d
    | .exc x _ h1 => _
    | _ => _) = _
  rw [ec, et]
  simp [leave, d__law_stream, at_end]
end K17

namespace K17
open PySem PySem.Spec PyProof.Rows L2 Mi
/-! ### drawn addresses -/
def lst012 : PD → Prop := fun d => ∃ i : Int, d = .int i ∧ 0 ≤ i ∧ i ≤ 2
theorem rng_nat (r : Int) (h0 : 0 ≤ r) (h1 : r < 1000) : rngOf [.int r] = some ((List.range r.toNat).map fun (i : Nat) => .int (i : Int)) := by
  unfold rngOf
  dsimp only
  rw [if_pos (by omega)]
theorem ints_of : ∀ {ds : List PD}, (∀ d ∈ ds, lst012 d) → ∃ ps : List Int, ds = ps.map .int ∧ ∀ i ∈ ps, 0 ≤ i ∧ i ≤ 2
  | [], _ => ⟨[], rfl, fun _ h => by cases h⟩
  | d :: r, h => by
    obtain ⟨i, rfl, hi⟩ := h d List.mem_cons_self
    obtain ⟨ps, rfl, hp⟩ := ints_of (ds := r) fun x hx => h x (List.mem_cons_of_mem _ hx)
    refine ⟨i :: ps, rfl, fun j hj => ?_⟩
    rcases List.mem_cons.mp hj with rfl | hj
    · exact hi
    · exact hp j hj
/-- the piece -/
theorem piece_run (n : Nat) {H : Hd} {k : Nat} (s : SH H k) (x1 x2 x3 x4 x5 x6 : Option D) :
    ∃ (ps : List Int) (H' : Hd), evE (callN gc Pd (n + 1)) gc q0__law_address [some (.ref k), x1, x2, x3, x4, x5, x6] H = .ok (.dat (.list (ps.map .int))) H' ∧ Up H k H' ∧ ps ≠ [] ∧ ps.length ≤ 3 ∧ ∀ i ∈ ps, 0 ≤ i ∧ i ≤ (2 : Int) := by
  obtain ⟨r, H1, e, r0, r1, u⟩ := c_draw n s (hi := 3) (by decide) (by decide)
  have eI : evI (callN gc Pd (n + 1)) gc (.rng (.cons (.bin .Add (.con (.int 1)) (.call "_law_draw" (.cons (.var 0) (.cons (.con (.int 3)) .nil)))) .nil)) [some (.ref k), x1, x2, x3, x4, x5, x6] H = .ok ⟨(List.range (1 + r).toNat).map fun (i : Nat) => .int (i : Int), none⟩ H1 := by
    simp only [evI, evEs, evE, Res.bind, List.getElem?_cons_zero, e, rdx, binP, add_ints, ofO, datsOf, Option.map, Option.bind, rng_nat (1 + r) (by omega) (by omega)]
  rw [q0__law_address, evE, eI]
  simp only [bind_ok]
  have hs1 := u.sh s.lt
  have hlt := hs1.lt
  obtain ⟨acc', H2, e2, ⟨u2, hI⟩, l2⟩ := lcRun_st (p := .nm 6) (items0 := (List.range (1 + r).toNat).map fun (i : Nat) => .int (i : Int)) (elt := evE (callN gc Pd (n + 1)) gc y0__law_address) (tst := evC (callN gc Pd (n + 1)) gc .no) (l := [some (.ref k), x1, x2, x3, x4, x5, x6])
    (fun acc h' => Up H1 k h' ∧ ∀ d ∈ acc, lst012 d) (fun l h => by rw [evC]) ((List.range (1 + r).toNat).map fun (i : Nat) => .int (i : Int)) [] H1 (by rw [sizeLine_eq]; simp; omega) ⟨hs1.up, fun d hd => by cases hd⟩ (by
      intro d hd acc h' ⟨uu, hacc⟩
      refine ⟨_, rfl, ?_⟩
      obtain ⟨r', h2, e', r0', r1', u'⟩ := c_draw n (uu.sh hlt) (hi := 3) (by decide) (by decide)
      refine ⟨.int r', h2, ?_, uu.trans u', fun d hd => ?_⟩
      · simp only [y0__law_address, evE, evEs, Res.bind, wipeL, Pt.slots, List.set_cons_succ, List.set_cons_zero, List.getElem?_cons_zero, e']
      · rcases List.mem_append.mp hd with hd | hd
        · exact hacc d hd
        · have : d = .int r' := by simpa using hd
          exact ⟨r', this, r0', by omega⟩)
  obtain ⟨ps, rfl, hp⟩ := ints_of hI
  refine ⟨ps, H2, ?_, u.trans u2, ?_, ?_, hp⟩
  · rw [e2]; rfl
  · intro h0
    subst h0
    simp at l2
    omega
  · simp at l2
    omega
theorem addr_turn (n : Nat) {h : Hd} {k : Nat} (s : SH h k) (far : Nat) (hf : far ≤ 1000000000000000000000000000000) (x1 x4 x5 x6 : Option D) (es : List El) (hz : es.length < 100) :
    ∃ (e : El) (h' : Hd) (y5 : Option D), e.ok ∧ Up h k h' ∧ exSs (callN gc Pd (n + 2)) gc w2__law_address [some (.ref k), x1, some (.dat (.int far)), some (.ref h.length), x4, x5, x6] (h ++ [.lst (es.map El.pd)]) = .nx [some (.ref k), x1, some (.dat (.int far)), some (.ref h.length), x4, y5, x6] (h' ++ [.lst ((es ++ [e]).map El.pd)]) := by
  have hk := s.lt
  obtain ⟨r, H1, e1, r0, r1, u1⟩ := c_draw (n + 1) (s.app (.lst (es.map El.pd))) (hi := 2) (by decide) (by decide)
  obtain ⟨h1, v1, rfl⟩ := u1.app hk
  have s1 := v1.sh hk
  have hk1 := s1.lt
  have z1 : (es.map El.pd).length < sizeLine := by rw [sizeLine_eq]; simp; omega
  have z2 : 2 ≤ sizeLine := by rw [sizeLine_eq]; omega
  have z5 : 5 ≤ sizeLine := by rw [sizeLine_eq]; omega
  by_cases hr : r = 0
  · have q : eqP (.int r) (.int 0) = some (.bool true) := by rw [eq_ints]; simp [hr]
    obtain ⟨r', H2, e2, r0', r1', u2⟩ := c_draw (n + 1) (s1.app (.lst (es.map El.pd))) (hi := 3) (by decide) (by decide)
    obtain ⟨h2, v2, rfl⟩ := u2.app hk1
    have l2 : h2.length = h.length := by rw [v2.len, v1.len]
    refine ⟨.one r', h2, x5, ⟨r0', by omega⟩, v1.trans v2, ?_⟩
    have w1 : (h1 ++ [Ob.lst (es.map El.pd)])[h.length]? = some (.lst (es.map El.pd)) := by rw [← v1.len]; exact at_end _ _
    have w2 : (h2 ++ [Ob.lst (es.map El.pd)])[h.length]? = some (.lst (es.map El.pd)) := by rw [← l2]; exact at_end _ _
    have w3 : ∀ o : Ob, (h2 ++ [Ob.lst (es.map El.pd)]).set h.length o = h2 ++ [o] := fun o => by rw [← l2]; exact set_end _ _ _
    simp only [w2__law_address, exSs, exS, evT, evE, evEs, Res.bind, Res.out, rd, truD, truP, ofO, cmpP, isLst, mthRun, lstRun, List.getElem?_cons_zero, List.getElem?_cons_succ, Option.bind, if_true, e1, q, e2, w1, w2, w3, z1, List.map_append, List.map_cons, List.map_nil, El.pd]
  · have q : eqP (.int r) (.int 0) = some (.bool false) := by rw [eq_ints]; simp [hr]
    obtain ⟨ps, H2, e2, u2, p1, p2, p3⟩ := piece_run (n + 1) (s1.app (.lst (es.map El.pd))) x1 (some (.dat (.int far))) (some (.ref h.length)) x4 x5 x6
    obtain ⟨h2, v2, rfl⟩ := u2.app hk1
    have s2 := v2.sh hk1
    have hk2 := s2.lt
    obtain ⟨t, ht, H3, e3, u3⟩ := c_pick n (s2.app (.lst (es.map El.pd))) (items := [.int 0, .int 1, .int 2, .int 3, .int far]) (by simp) (by simp)
    obtain ⟨h3, v3, rfl⟩ := u3.app hk2
    have l3 : h3.length = h.length := by rw [v3.len, v2.len, v1.len]
    have l2 : h2.length = h.length := by rw [v2.len, v1.len]
    have ht' : ∃ t' : Nat, t = .int t' ∧ t' ≤ 1000000000000000000000000000000 := by
      simp only [List.mem_cons, List.not_mem_nil, or_false] at ht
      rcases ht with rfl | rfl | rfl | rfl | rfl
      · exact ⟨0, rfl, by omega⟩
      · exact ⟨1, rfl, by omega⟩
      · exact ⟨2, rfl, by omega⟩
      · exact ⟨3, rfl, by omega⟩
      · exact ⟨far, rfl, hf⟩
    obtain ⟨t', rfl, ht2⟩ := ht'
    refine ⟨.rep ps t', h3, some (.dat (.tuple (ps.map .int))), ⟨p1, by omega, p3, ht2⟩, (v1.trans v2).trans v3, ?_⟩
    have w2 : (h2 ++ [Ob.lst (es.map El.pd)])[h.length]? = some (.lst (es.map El.pd)) := by rw [← l2]; exact at_end _ _
    have w3 : (h3 ++ [Ob.lst (es.map El.pd)])[h.length]? = some (.lst (es.map El.pd)) := by rw [← l3]; exact at_end _ _
    have w4 : ∀ o : Ob, (h3 ++ [Ob.lst (es.map El.pd)]).set h.length o = h3 ++ [o] := fun o => by rw [← l3]; exact set_end _ _ _
    simp only [w2__law_address, exSs, exS, evT, evE, evEs, Res.bind, Res.out, rd, rdsOf, Bl.fn, tupleP, truD, truP, ofO, cmpP, isLst, mthRun, lstRun, datsOf, mkL, List.getElem?_cons_zero, List.getElem?_cons_succ, List.set_cons_succ, List.set_cons_zero, Option.bind, Option.map, if_true, Bool.false_eq_true, if_false, e1, q, e2, e3, w2, w3, w4, z1, z2, z5, List.length_cons, List.length_nil, Nat.zero_add, List.map_append, List.map_cons, List.map_nil, El.pd]
theorem addr_loop (n : Nat) {k : Nat} (far : Nat) (hf : far ≤ 1000000000000000000000000000000) (items0 : List PD) (x1 x6 : Option D) : ∀ (items : List PD) (h : Hd) (x4 x5 : Option D) (es : List El), SH h k → (∀ e ∈ es, e.ok) → es.length + items.length ≤ 50 →
    ∃ (es' : List El) (h' : Hd) (y4 y5 : Option D), (∀ e ∈ es', e.ok) ∧ es'.length ≤ 50 ∧ Up h k h' ∧ forRun (.nm 4) ⟨items0, none⟩ (exSs (callN gc Pd (n + 2)) gc w2__law_address) items [some (.ref k), x1, some (.dat (.int far)), some (.ref h.length), x4, x5, x6] (h ++ [.lst (es.map El.pd)]) = .nx [some (.ref k), x1, some (.dat (.int far)), some (.ref h.length), y4, y5, x6] (h' ++ [.lst (es'.map El.pd)])
  | [], h, x4, x5, es, s, hk, hz => by
    refine ⟨es, h, x4, x5, hk, by simpa using hz, s.up, ?_⟩
    unfold forRun
    rw [if_pos (stays_none _ _)]
  | d :: r, h, x4, x5, es, s, hk, hz => by
    simp only [List.length_cons] at hz
    obtain ⟨e, h1, y5, he, u1, e1⟩ := addr_turn n s far hf x1 (some (.dat d)) x5 x6 es (by omega)
    obtain ⟨es', h2, y4, y5', k2, l2, u2, e2⟩ := addr_loop n far hf items0 x1 x6 r h1 (some (.dat d)) y5 (es ++ [e]) (u1.sh s.lt) (fun x hx => by
      rcases List.mem_append.mp hx with hx | hx
      · exact hk x hx
      · have : x = e := by simpa using hx
        subst this; exact he) (by simp; omega)
    refine ⟨es', h2, y4, y5', k2, l2, u1.trans u2, ?_⟩
    unfold forRun
    rw [if_pos (stays_none _ _)]
    simp only [bindP, List.set_cons_succ, List.set_cons_zero]
    rw [e1]
    dsimp only
    rw [u1.len] at e2
    exact e2
theorem c_address (n : Nat) {h : Hd} {k : Nat} (s : SH h k) (far : Nat) (hf : far ≤ 1000000000000000000000000000000) : ∃ (es : List El) (h' : Hd), callN gc Pd (n + 3) "_law_address" [.ref k, .dat (.int 5), .dat (.int far)] h = .ok (.dat (tp es)) h' ∧ okA es ∧ es.length ≤ 50 ∧ Up h k h' := by
  have hk := s.lt
  obtain ⟨r, H1, e1, r0, r1, u1⟩ := c_draw (n + 1) (s.app (.lst [])) (hi := 6) (by decide) (by decide)
  obtain ⟨h1, v1, rfl⟩ := u1.app hk
  obtain ⟨es, h2, y4, y5, k2, l2, v2, e2⟩ := addr_loop n far hf ((List.range r.toNat).map fun (i : Nat) => .int (i : Int)) (some (.dat (.int 5))) none ((List.range r.toNat).map fun (i : Nat) => .int (i : Int)) h1 none none [] (v1.sh hk) (fun _ h => by cases h) (by simp; omega)
  have l1 := v1.len
  have ll : h2.length = h.length := by rw [v2.len, v1.len]
  refine ⟨es, h2, ?_, ⟨by omega, k2⟩, l2, v1.trans v2⟩
  rw [l1] at e2
  have fr : exS (callN gc Pd (n + 2)) gc f2__law_address [some (.ref k), some (.dat (.int 5)), some (.dat (.int far)), some (.ref h.length), none, none, none] (h ++ [.lst []]) = .nx [some (.ref k), some (.dat (.int 5)), some (.dat (.int far)), some (.ref h.length), y4, y5, none] (h2 ++ [.lst (es.map El.pd)]) := by
    rw [f2__law_address, exS]
    have eI : evI (callN gc Pd (n + 2)) gc (.rng (.cons (.call "_law_draw" (.cons (.var 0) (.cons (.bin .Add (.var 1) (.con (.int 1))) .nil))) .nil)) [some (.ref k), some (.dat (.int 5)), some (.dat (.int far)), some (.ref h.length), none, none, none] (h ++ [.lst []]) = .ok ⟨(List.range r.toNat).map fun (i : Nat) => .int (i : Int), none⟩ (h1 ++ [.lst []]) := by
      have a6 : ((5 : Int) + 1) = 6 := rfl
      simp only [evI, evEs, evE, Res.bind, List.getElem?_cons_zero, List.getElem?_cons_succ, rdx, binP, add_ints, a6, e1, ofO, datsOf, Option.map, Option.bind, rng_nat r r0 (by omega)]
    rw [eI]
    simp only [Res.out]
    exact e2
  have w2 : (h2 ++ [Ob.lst (es.map El.pd)])[h.length]? = some (.lst (es.map El.pd)) := by rw [← ll]; exact at_end _ _
  have tk : (h2 ++ [Ob.lst (es.map El.pd)]).take h.length = h2 := by rw [← ll]; simp
  rw [call_def P_address rfl]
  simp only [runDef, d__law_address, b__law_address]
  show _ = Res.ok (D.dat (PyData.tuple (es.map El.pd))) h2
  simp [exSs, exS, evE, evEs, Res.bind, Res.out, datsOf, mkL, fr, rdsOf, rd, w2, Ob.py, Bl.fn, tupleP, ofO, leave, tk]
end K17

namespace K17
open PySem PySem.Spec PyProof.Rows L2 Mi
theorem P_odd : Pd "_law_odd_element" = some d__law_odd_element := by rfl
theorem P_near : Pd "_law_near_address" = some d__law_near_address := by rfl
/-- an element whose piece is not too long -/
def Sk (e : PD) : Prop := ∀ a b, e = .tuple [a, b] → Sz a
def skB : PD → Bool
  | .tuple [.tuple ps, _] => decide (ps.length ≤ 100000)
  | _ => true
theorem sk_of {e : PD} (h : skB e = true) : Sk e := by
  intro a b he ds hd
  subst he
  subst hd
  exact of_decide_eq_true h
/-! the expressions of the odd elements -/
def oddE : Ss → List E
  | .cons (.asg _ e) r => e :: oddE r
  | .cons (.ret (.call _ (.cons _ (.cons e _)))) _ => [e]
  | _ => []
def e1 : E := (oddE b__law_odd_element).getD 0 .dnil
def e2 : E := match (oddE b__law_odd_element).getD 1 .dnil with
  | .bin _ _ b => b
  | e => e
def e3 : E := match (oddE b__law_odd_element).getD 2 .dnil with
  | .bin _ _ b => b
  | e => e
def odds (e : E) : List PD := match cvE gc e with
  | some (.list ps) => ps
  | _ => []
theorem odd1 : cvE gc e1 = some (.list (odds e1)) := by rfl
theorem odd2 : cvE gc e2 = some (.list (odds e2)) := by rfl
theorem odd3 : cvE gc e3 = some (.list (odds e3)) := by rfl
theorem odd_body : b__law_odd_element = .cons (.asg (.nm 1) e1) (.cons (.asg (.nm 1) (.bin .Add (.var 1) e2)) (.cons (.ret (.call "_law_pick" (.cons (.var 0) (.cons (.bin .Add (.var 1) e3) .nil)))) .nil)) := by rfl
theorem oddl : ((odds e1).length = 15 ∧ (odds e2).length = 8 ∧ (odds e3).length = 6) ∧ ((odds e1 ++ odds e2) ++ odds e3).all skB = true := by
  refine ⟨⟨?_, ?_, ?_⟩, ?_⟩ <;> decide +kernel
theorem add_lists {xs ys : List PD} (h : xs.length + ys.length ≤ 1000) : addP (.list xs) (.list ys) = some (.list (xs ++ ys)) := by
  unfold addP
  dsimp only
  rw [if_pos (by rw [sizeLine_eq]; omega)]
theorem c_odd (n : Nat) {h : Hd} {k : Nat} (s : SH h k) : ∃ x h', callN gc Pd (n + 3) "_law_odd_element" [.ref k] h = .ok (.dat x) h' ∧ Sk x ∧ Up h k h' := by
  obtain ⟨⟨l1, l2, l3⟩, al⟩ := oddl
  generalize h1 : odds e1 = o1 at l1 al
  generalize h2 : odds e2 = o2 at l2 al
  generalize h3 : odds e3 = o3 at l3 al
  have q1 := odd1
  have q2 := odd2
  have q3 := odd3
  rw [h1] at q1
  rw [h2] at q2
  rw [h3] at q3
  have a1 : addP (.list o1) (.list o2) = some (.list (o1 ++ o2)) := add_lists (by omega)
  have a2 : addP (.list (o1 ++ o2)) (.list o3) = some (.list (o1 ++ o2 ++ o3)) := add_lists (by rw [List.length_append]; omega)
  obtain ⟨x, hx, h', e, u⟩ := c_pick n s (items := o1 ++ o2 ++ o3) (by intro h0; have := congrArg List.length h0; rw [List.length_append, List.length_append, List.length_nil] at this; omega) (by simp; omega)
  refine ⟨x, h', ?_, sk_of (List.all_eq_true.mp al x hx), u⟩
  rw [call_def P_odd rfl]
  simp only [runDef, d__law_odd_element]
  rw [odd_body]
  have v1 := fun (l : Mi.Loc) (h : Hd) => cv_ok (cf := callN gc Pd (n + 2)) e1 l h q1
  have v2 := fun (l : Mi.Loc) (h : Hd) => cv_ok (cf := callN gc Pd (n + 2)) e2 l h q2
  have v3 := fun (l : Mi.Loc) (h : Hd) => cv_ok (cf := callN gc Pd (n + 2)) e3 l h q3
  simp [exSs, exS, evE, evEs, Res.bind, Res.out, rdx, ofO, binP, v1, v2, v3, a1, a2, e, leave, take_up u, -List.append_assoc]
/-! ### near addresses -/
theorem sk_el {e : El} (hk : e.ok) : Sk e.pd := by
  intro a b he
  cases e with
  | one i => cases he
  | rep ps t =>
    cases he
    intro ds e2
    cases e2
    have := hk.2.1
    simp
    omega
theorem sk_tp {es : List El} (hk : okA es) : Sk (tp es) := by
  intro a b he ds hd
  subst hd
  have h1 : es.map El.pd = [.tuple ds, b] := by injection he
  cases es with
  | nil => cases h1
  | cons e r =>
    rw [List.map_cons] at h1
    injection h1 with h2 h3
    cases e with
    | one i => cases h2
    | rep ps t =>
      cases h2
      simp
theorem sz_list {ds : List PD} (h1 : ds.length ≤ 100000) (h2 : ∀ e ∈ ds, Sk e) : Sz2 (.tuple ds) := by
  intro xs e
  cases e
  exact ⟨h1, h2⟩
theorem add_tups {xs ys : List PD} (h : xs.length + ys.length ≤ 1000) : addP (.tuple xs) (.tuple ys) = some (.tuple (xs ++ ys)) := by
  unfold addP
  dsimp only
  rw [if_pos (by rw [sizeLine_eq]; omega)]
theorem c_near (n : Nat) {h : Hd} {k : Nat} (s : SH h k) {es : List El} (hk : okA es) : ∃ v h', callN gc Pd (n + 4) "_law_near_address" [.ref k, .dat (tp es)] h = .ok (.dat v) h' ∧ Sz2 v ∧ Up h k h' := by
  have lz := hk.1
  have mem : ∀ d ∈ es.map El.pd, Sk d := fun d hd => by
    obtain ⟨e, he, rfl⟩ := List.mem_map.mp hd
    exact sk_el (hk.2 e he)
  have tt := sk_tp hk
  have sz := sz_tp hk
  unfold tp at tt sz ⊢
  generalize hT : es.map El.pd = T at *
  have lT : T.length ≤ 100 := by rw [← hT]; simpa using lz
  obtain ⟨r, h1, e1, r0, r1, u1⟩ := c_draw (n + 2) s (hi := (T.length : Int) + 1) (by omega) (by omega)
  obtain ⟨x, h2, e2, hx, u2⟩ := c_odd n (u1.sh s.lt)
  obtain ⟨at_, rfl⟩ : ∃ a : Nat, r = a := ⟨r.toNat, by omega⟩
  have u12 := u1.trans u2
  let v6 : PD := .tuple (T ++ [x])
  let v7 : PD := .tuple (T.take at_ ++ [x] ++ T.drop at_)
  let v10 : PD := .tuple (T.take at_ ++ [x] ++ T.drop (at_ + 1))
  let items : List PD := [.list T, .none, .int 0, .str "", .dict [], v6, v7, .tuple [.tuple T], .bool true] ++ [v10, v10, v10, v10]
  obtain ⟨v, hv, h3, e3, u3⟩ := c_pick (n + 1) (u12.sh s.lt) (items := items) (by simp [items]) (by simp [items])
  refine ⟨v, h3, ?_, ?_, u12.trans u3⟩
  · rw [call_def P_near rfl]
    simp only [runDef, d__law_near_address, b__law_near_address]
    have t1 : (T.take at_).length ≤ 100 := by simp; omega
    have t2 : (T.drop at_).length ≤ 100 := by simp; omega
    have t3 : (T.drop (at_ + 1)).length ≤ 100 := by simp; omega
    have a1 : addP (.tuple T) (.tuple [x]) = some v6 := add_tups (by simp; omega)
    have a2 : addP (.tuple (T.take at_)) (.tuple [x]) = some (.tuple (T.take at_ ++ [x])) := add_tups (by simp; omega)
    have a3 : addP (.tuple (T.take at_ ++ [x])) (.tuple (T.drop at_)) = some v7 := add_tups (by rw [List.length_append]; simp only [List.length_cons, List.length_nil]; omega)
    have a4 : addP (.tuple (T.take at_ ++ [x])) (.tuple (T.drop (at_ + 1))) = some v10 := add_tups (by rw [List.length_append]; simp only [List.length_cons, List.length_nil]; omega)
    have c1 : slP (.tuple T) none (some (at_ : Int)) = some (.tuple (T.take at_)) := by rw [slP, cutL_take]
    have c2 : slP (.tuple T) (some (at_ : Int)) none = some (.tuple (T.drop at_)) := by rw [slP, cutL_drop]
    have c3 : slP (.tuple T) (some ((at_ : Int) + 1)) none = some (.tuple (T.drop (at_ + 1))) := by
      rw [slP]
      have := cutL_drop T (at_ + 1)
      simpa using this
    have m1 : mulP (.list [v10]) (.int 4) = some (.list [v10, v10, v10, v10]) := by
      unfold mulP
      dsimp only
      rw [if_pos ⟨by omega, by omega, by rw [sizeLine_eq]; simp⟩]
      rfl
    have a5 : addP (.list [.list T, .none, .int 0, .str "", .dict [], v6, v7, .tuple [.tuple T], .bool true]) (.list [v10, v10, v10, v10]) = some (.list items) := add_lists (by simp)
    have s1 : 1 ≤ sizeLine := one_sz
    have s9 : 9 ≤ sizeLine := by rw [sizeLine_eq]; omega
    have tk : h3.take h.length = h3 := take_up (u12.trans u3)
    clear_value v6 v7 v10 items
    simp only [exSs, exS, evT, evE, evEs, evB, evO, Res.bind, Res.out, rd, rdx, isiP, truD, truP, leave, ofO, rdsOf, datsOf, Bl.fn, cmpP, binP, isLst, mthRun, lstRun, at_end, set_end, mkL, List.map_cons, List.map_nil, List.length_cons, List.length_nil, Nat.zero_add, Nat.reduceAdd, Nat.reduceSub, List.replicate, List.cons_append, List.nil_append, List.getElem?_cons_zero, List.getElem?_cons_succ, List.set_cons_succ, List.set_cons_zero, Option.bind, Option.map, setAll, if_true, Bool.false_eq_true, if_false, len_tuple, add_ints, e1, e2, e3, a1, a2, a3, a4, a5, c1, c2, c3, m1, s1, s9, tk]
  · have mt : ∀ d ∈ T.take at_, Sk d := fun d hd => mem d (List.mem_of_mem_take hd)
    have m1 : ∀ m, ∀ d ∈ T.drop m, Sk d := fun m d hd => mem d (List.mem_of_mem_drop hd)
    have one : ∀ d ∈ [x], Sk d := fun d hd => by
      have : d = x := by simpa using hd
      subst this; exact hx
    have three : ∀ m, Sz2 (.tuple (T.take at_ ++ [x] ++ T.drop m)) := fun m => sz_list (by simp; omega) fun d hd => by
      rcases List.mem_append.mp hd with hd | hd
      · rcases List.mem_append.mp hd with hd | hd
        · exact mt d hd
        · exact one d hd
      · exact m1 m d hd
    have other : ∀ d : PD, (∀ ds, d ≠ .tuple ds) → Sz2 d := fun d hd ds e => absurd e (hd ds)
    simp only [items, v6, v7, v10, List.mem_append, List.mem_cons, List.not_mem_nil, or_false, or_assoc] at hv
    rcases hv with rfl | rfl | rfl | rfl | rfl | rfl | rfl | rfl | rfl | rfl | rfl | rfl | rfl
    · exact other _ fun ds e => by cases e
    · exact other _ fun ds e => by cases e
    · exact other _ fun ds e => by cases e
    · exact other _ fun ds e => by cases e
    · exact other _ fun ds e => by cases e
    · refine sz_list (by simp; omega) fun d hd => ?_
      rcases List.mem_append.mp hd with hd | hd
      · exact mem d hd
      · exact one d hd
    · exact three _
    · refine sz_list (by simp) fun d hd => ?_
      have : d = .tuple T := by simpa using hd
      subst this; exact tt
    · exact other _ fun ds e => by cases e
    · exact three _
    · exact three _
    · exact three _
    · exact three _
end K17

namespace K17
open PySem PySem.Spec PyProof.Rows L2 Mi
theorem P_cuts_right : Pd "_law_cuts_right" = some d__law_cuts_right := by rfl
theorem P_long : Pd "_law_long" = some d__law_long := by rfl
theorem P_right : Pd "_law_right" = some d__law_right := by rfl
theorem el_le {e : El} (hk : e.ok) : e.len ≤ 10000000000000000000000000000000 := by
  cases e with
  | one i => show 1 ≤ _; omega
  | rep ps t =>
    obtain ⟨h1, h2, h3, h4⟩ := hk
    show ps.length * t ≤ 10000000000000000000000000000000
    have := Nat.mul_le_mul h2 h4
    omega
theorem lenA_le : ∀ (es : List El), (∀ e ∈ es, e.ok) → lenA es ≤ es.length * 10000000000000000000000000000000
  | [], _ => by simp [lenA]
  | e :: r, h => by
    have h1 := el_le (h e List.mem_cons_self)
    have h2 := lenA_le r fun x hx => h x (List.mem_cons_of_mem _ hx)
    simp only [lenA, List.map_cons, List.sum_cons, List.length_cons] at h2 ⊢
    omega
theorem ok_cut {es : List El} (hk : okA es) (hl : es.length ≤ 50) (m : Nat) : okA (cutA es m) := ⟨by have := cutA_len es m hk.2; omega, cutA_ok es m hk.2⟩
theorem isn_tt : cmpP .IsNot (.bool true) (.bool true) = some (.bool false) := by rfl
theorem ne_same (i : Int) : neP (.int i) (.int i) = some (.bool false) := by rw [ne_ints]; simp
theorem slP_ints (xs : List Int) (m : Nat) : slP (.tuple (xs.map .int)) none (some (m : Int)) = some (.tuple ((xs.take m).map .int)) := by
  rw [slP, cutL_take, List.map_take]
theorem cuts_turn (n : Nat) (A x3 x5 x6 : Option D) {es : List El} (hk : okA es) (hl : es.length ≤ 50) (h : Hd) (m : Nat) (hm : m ≤ lenA es) :
    ∃ y5, exSs (callN gc Pd (n + 7)) gc w2__law_cuts_right [A, some (.dat (tp es)), some (.dat (.int (lenA es))), x3, some (.dat (.int m)), x5, x6] h = .nx [A, some (.dat (tp es)), some (.dat (.int (lenA es))), x3, some (.dat (.int m)), y5, x6] h := by
  have okc := ok_cut hk hl m
  refine ⟨some (.dat (tp (cutA es m))), ?_⟩
  have k1 := c_cut n h hk m hm
  have k2 := c_law_cut (n + 5) h hk m
  have k3 := c_length_of n h okc
  rw [cutA_lenA hk.2 hm] at k3
  have k4 := c_is_address (n + 2) _ h (sz_tp okc)
  rw [addrB_tp okc] at k4
  have k5 := repr_tp okc
  have k6 := ne_str (tp (cutA es m)).shown
  have k7 := ne_same (m : Int)
  by_cases h4 : m < 40
  · have e1 : ltP (.int (m : Int)) (.int 40) = some (.bool true) := by rw [lt_ints]; simp; omega
    have k8 := c_plain n h okc (by rw [cutA_lenA hk.2 hm]; omega)
    rw [cutA_ex es m hk.2 hm] at k8
    obtain ⟨w, hw, w1, w2, w3⟩ : ∃ w : Nat, minP [.int (lenA es : Int), .int 40] = some (.int (w : Int)) ∧ w ≤ lenA es ∧ m ≤ w ∧ w ≤ 40 := by
      rw [min_ints]
      by_cases hz : (40 : Int) < (lenA es : Int)
      · exact ⟨40, by rw [if_pos hz]; rfl, by omega, by omega, by omega⟩
      · exact ⟨lenA es, by rw [if_neg hz], by omega, by omega, by omega⟩
    have okw := ok_cut hk hl w
    have k9 := c_cut n h hk w w1
    have k10 := c_plain n h okw (by rw [cutA_lenA hk.2 w1]; omega)
    rw [cutA_ex es w hk.2 w1] at k10
    have k11 := slP_ints ((exA es).take w) m
    rw [List.take_take, Nat.min_eq_left w2] at k11
    have k12 := ne_tup ((exA es).take m)
    simp only [w2__law_cuts_right, exSs, exS, evT, evE, evEs, evB, evO, Res.bind, Res.out, rd, rdsOf, ofO, Bl.fn, truD, truP, List.getElem?_cons_zero, List.getElem?_cons_succ, List.set_cons_succ, List.set_cons_zero, Option.bind, if_true, Bool.false_eq_true, if_false, Bool.true_eq_false, k1, k2, k3, k4, k5, show cmpP .NotEq = neP from rfl, show cmpP .Lt = ltP from rfl, k6, k7, isn_tt, e1, k8, hw, k9, k10, k11, k12]
  · have e1 : ltP (.int (m : Int)) (.int 40) = some (.bool false) := by rw [lt_ints]; simp; omega
    simp only [w2__law_cuts_right, exSs, exS, evT, evE, evEs, evB, evO, Res.bind, Res.out, rd, rdsOf, ofO, Bl.fn, truD, truP, List.getElem?_cons_zero, List.getElem?_cons_succ, List.set_cons_succ, List.set_cons_zero, Option.bind, if_true, Bool.false_eq_true, if_false, Bool.true_eq_false, k1, k2, k3, k4, k5, show cmpP .NotEq = neP from rfl, show cmpP .Lt = ltP from rfl, k6, k7, isn_tt, e1]
theorem cuts_loop (n : Nat) (A x3 x6 : Option D) {es : List El} (hk : okA es) (hl : es.length ≤ 50) (h : Hd) (items0 : List PD) : ∀ (items : List PD) (x4 x5 : Option D), (∀ d ∈ items, ∃ m : Nat, d = .int m ∧ m ≤ lenA es) →
    ∃ y4 y5, forRun (.nm 4) ⟨items0, none⟩ (exSs (callN gc Pd (n + 7)) gc w2__law_cuts_right) items [A, some (.dat (tp es)), some (.dat (.int (lenA es))), x3, x4, x5, x6] h = .nx [A, some (.dat (tp es)), some (.dat (.int (lenA es))), x3, y4, y5, x6] h
  | [], x4, x5, _ => by
    refine ⟨x4, x5, ?_⟩
    unfold forRun
    rw [if_pos (stays_none _ _)]
  | d :: r, x4, x5, hd => by
    obtain ⟨m, rfl, hm⟩ := hd d List.mem_cons_self
    obtain ⟨y5, e1⟩ := cuts_turn n A x3 x5 x6 hk hl h m hm
    obtain ⟨z4, z5, e2⟩ := cuts_loop n A x3 x6 hk hl h items0 r (some (.dat (.int m))) y5 fun x hx => hd x (List.mem_cons_of_mem _ hx)
    refine ⟨z4, z5, ?_⟩
    unfold forRun
    rw [if_pos (stays_none _ _)]
    simp only [bindP, List.set_cons_succ, List.set_cons_zero]
    rw [e1]
    exact e2
theorem pow29 : powP (.int 10) (.int 29) = some (.int 100000000000000000000000000000) := pow_of (by decide +kernel) (by decide +kernel)
/-- the drawn lengths -/
theorem draws_run (n : Nat) {H : Hd} {k : Nat} (s : SH H k) (x1 x3 x4 x5 x6 : Option D) (w : Nat) (hw : w < 10 ^ 40) :
    ∃ ds H', evE (callN gc Pd (n + 1)) gc q0__law_cuts_right [some (.ref k), x1, some (.dat (.int w)), x3, x4, x5, x6] H = .ok (.dat (.list ds)) H' ∧ Up H k H' ∧ ds.length ≤ 3 ∧ ∀ d ∈ ds, ∃ m : Nat, d = .int m ∧ m ≤ w := by
  have eI : evI (callN gc Pd (n + 1)) gc (.rng (.cons (.con (.int 3)) .nil)) [some (.ref k), x1, some (.dat (.int w)), x3, x4, x5, x6] H = .ok ⟨(List.range (3 : Int).toNat).map fun (i : Nat) => .int (i : Int), none⟩ H := by
    simp only [evI, evEs, evE, Res.bind, datsOf, Option.map, Option.bind, rng_nat 3 (by decide) (by decide)]
  rw [q0__law_cuts_right, evE, eI]
  simp only [bind_ok]
  have hlt := s.lt
  have hw2 : ((w : Int) + 1) < 2 ^ 200 := by
    have : (10 : Nat) ^ 40 + 1 < 2 ^ 200 := by decide +kernel
    omega
  obtain ⟨acc', H2, e2, ⟨u2, hI⟩, l2⟩ := lcRun_st (p := .nm 6) (items0 := (List.range (3 : Int).toNat).map fun (i : Nat) => .int (i : Int)) (elt := evE (callN gc Pd (n + 1)) gc y0__law_cuts_right) (tst := evC (callN gc Pd (n + 1)) gc .no) (l := [some (.ref k), x1, some (.dat (.int w)), x3, x4, x5, x6])
    (fun acc h' => Up H k h' ∧ ∀ d ∈ acc, ∃ m : Nat, d = .int m ∧ m ≤ w) (fun l h => by rw [evC]) ((List.range (3 : Int).toNat).map fun (i : Nat) => .int (i : Int)) [] H (by rw [sizeLine_eq]; simp) ⟨s.up, fun d hd => by cases hd⟩ (by
      intro d hd acc h' ⟨uu, hacc⟩
      refine ⟨_, rfl, ?_⟩
      obtain ⟨r', h2, e', r0', r1', u'⟩ := c_draw n (uu.sh hlt) (hi := (w : Int) + 1) (by omega) hw2
      refine ⟨.int r', h2, ?_, uu.trans u', fun d hd => ?_⟩
      · simp only [y0__law_cuts_right, evE, evEs, Res.bind, wipeL, Pt.slots, List.set_cons_succ, List.set_cons_zero, List.getElem?_cons_zero, List.getElem?_cons_succ, rdx, binP, add_ints, ofO, e']
      · rcases List.mem_append.mp hd with hd | hd
        · exact hacc d hd
        · have : d = .int r' := by simpa using hd
          exact ⟨r'.toNat, by rw [this]; congr 1; omega, by omega⟩)
  refine ⟨acc', H2, ?_, u2, ?_, hI⟩
  · rw [e2]; rfl
  · simp at l2
    omega
theorem c_cuts_right (n : Nat) {h : Hd} {k : Nat} (s : SH h k) {es : List El} (hk : okA es) (hl : es.length ≤ 50) : ∃ h', callN gc Pd (n + 8) "_law_cuts_right" [.ref k, .dat (tp es)] h = .ok (.dat (.bool true)) h' ∧ Up h k h' := by
  have lb : lenA es < 10 ^ 40 := by
    have h1 := lenA_le es hk.2
    have h2 := Nat.mul_le_mul_right 10000000000000000000000000000000 hl
    have : 50 * 10000000000000000000000000000000 < 10 ^ 40 := by decide +kernel
    omega
  have k1 := c_law_length (n + 6) h hk
  let i2 : Int := if (lenA es : Int) - 1 > 0 then (lenA es : Int) - 1 else 0
  let i4 : Int := if (1 : Int) < (lenA es : Int) then 1 else (lenA es : Int)
  let i5 : Int := if (100000000000000000000000000000 : Int) < (lenA es : Int) then 100000000000000000000000000000 else (lenA es : Int)
  let some6 : List PD := [.int 0, .int (lenA es), .int i2, .int ((lenA es : Int) / 2), .int i4, .int i5]
  obtain ⟨ds, h1, e1, u1, l1, hd⟩ := draws_run (n + 6) s (some (.dat (tp es))) (some (.dat (.list some6))) none none none (lenA es) lb
  have ad : addP (.list some6) (.list ds) = some (.list (some6 ++ ds)) := add_lists (by simp [some6]; omega)
  have all : ∀ d ∈ some6 ++ ds, ∃ m : Nat, d = .int m ∧ m ≤ lenA es := by
    intro d hdm
    rcases List.mem_append.mp hdm with hdm | hdm
    · simp only [some6, List.mem_cons, List.not_mem_nil, or_false] at hdm
      have mk : ∀ i : Int, 0 ≤ i → i ≤ lenA es → ∃ m : Nat, PyData.int i = .int m ∧ m ≤ lenA es := fun i a b => ⟨i.toNat, by congr 1; omega, by omega⟩
      rcases hdm with rfl | rfl | rfl | rfl | rfl | rfl
      · exact mk _ (by omega) (by omega)
      · exact mk _ (by omega) (by omega)
      · exact mk _ (by simp only [i2]; split <;> omega) (by simp only [i2]; split <;> omega)
      · exact mk _ (by omega) (by omega)
      · exact mk _ (by simp only [i4]; split <;> omega) (by simp only [i4]; split <;> omega)
      · exact mk _ (by simp only [i5]; split <;> omega) (by simp only [i5]; split <;> omega)
    · exact hd d hdm
  obtain ⟨y4, y5, e2⟩ := cuts_loop n (some (.ref k)) (some (.dat (.list some6))) none hk hl h1 (some6 ++ ds) (some6 ++ ds) none none all
  have fr : exS (callN gc Pd (n + 7)) gc f2__law_cuts_right [some (.ref k), some (.dat (tp es)), some (.dat (.int (lenA es))), some (.dat (.list some6)), none, none, none] h = .nx [some (.ref k), some (.dat (tp es)), some (.dat (.int (lenA es))), some (.dat (.list some6)), y4, y5, none] h1 := by
    rw [f2__law_cuts_right, exS]
    have eI : evI (callN gc Pd (n + 7)) gc (.seq (.bin .Add (.var 3) q0__law_cuts_right)) [some (.ref k), some (.dat (tp es)), some (.dat (.int (lenA es))), some (.dat (.list some6)), none, none, none] h = .ok ⟨some6 ++ ds, none⟩ h1 := by
      simp only [evI, evE, Res.bind, List.getElem?_cons_zero, List.getElem?_cons_succ, e1, rdx, binP, ad, ofO, seqOf]
    rw [eI]
    simp only [Res.out]
    exact e2
  refine ⟨h1, ?_, u1⟩
  have m1 : maxP [.int 0, .int ((lenA es : Int) - 1)] = some (.int i2) := rfl
  have m2 : fdivP (.int (lenA es : Int)) (.int 2) = some (.int ((lenA es : Int) / 2)) := fd (by decide) (by decide)
  have m3 : minP [.int (lenA es : Int), .int 1] = some (.int i4) := rfl
  have m4 : minP [.int (lenA es : Int), .int 100000000000000000000000000000] = some (.int i5) := rfl
  have s6 : 6 ≤ sizeLine := by rw [sizeLine_eq]; omega
  have t6 : [PyData.int 0, .int (lenA es), .int i2, .int ((lenA es : Int) / 2), .int i4, .int i5] = some6 := rfl
  rw [call_def P_cuts_right rfl]
  simp only [runDef, d__law_cuts_right, b__law_cuts_right]
  have tk : h1.take h.length = h1 := take_up u1
  have z6 : some6.length ≤ sizeLine := s6
  clear_value i2 i4 i5 some6
  simp only [exSs, exS, evE, evEs, Res.bind, Res.out, rd, rdx, rdsOf, datsOf, mkL, Bl.fn, binP, ofO, leave, List.map_cons, List.map_nil, List.length_cons, List.length_nil, Nat.zero_add, Nat.reduceAdd, Nat.reduceSub, List.replicate, List.cons_append, List.nil_append, List.getElem?_cons_zero, List.getElem?_cons_succ, List.set_cons_succ, List.set_cons_zero, Option.bind, Option.map, if_true, Bool.false_eq_true, if_false, k1, sub_ints, m1, m2, m3, m4, pow29, s6, t6, z6, fr, tk]
/-! ### _law_long -/
theorem c_long_short (n : Nat) {es : List El} (h : Hd) (hk : okA es) (hz : lenA es ≤ 1000) : callN gc Pd (n + 8) "_law_long" [.dat (tp es)] h = .ok (.dat (.tuple ((exA es).map .int))) h := by
  rw [call_def P_long rfl]
  simp only [runDef, d__law_long, b__law_long]
  simp [exSs, exS, evE, evEs, Res.bind, c_plain n h hk hz, triRun, leave]
theorem c_long_long (n : Nat) {es : List El} (h : Hd) (hk : okA es) (hz : 1000 < lenA es) : callN gc Pd (n + 8) "_law_long" [.dat (tp es)] h = .ok (.dat (.int 1000)) h := by
  rw [call_def P_long rfl]
  simp only [runDef, d__law_long, b__law_long]
  simp [exSs, exS, evE, evEs, Res.bind, c_plain_long n h hk hz, triRun, leave]
end K17

namespace K17
open PySem PySem.Spec PyProof.Rows L2 Mi
theorem P_law : Pd "law" = some d_law := by rfl
/-! ### _law_right -/
theorem near_turn (n : Nat) {h : Hd} {k : Nat} (s : SH h k) (x2 x3 x4 : Option D) {es : List El} (hk : okA es) :
    ∃ y4 h', Up h k h' ∧ exSs (callN gc Pd (n + 5)) gc w0__law_right [some (.ref k), some (.dat (tp es)), x2, x3, x4] h = .nx [some (.ref k), some (.dat (tp es)), x2, x3, y4] h' := by
  obtain ⟨v, h', e, sz, u⟩ := c_near (n + 1) s hk
  refine ⟨some (.dat v), h', u, ?_⟩
  have k1 := c_is_address n v h' sz
  have k2 := c_law_is_address (n + 2) v h' sz
  have k3 := repr_bool (addrB v)
  have k4 := ne_str (PyData.bool (addrB v)).shown
  simp only [w0__law_right, exSs, exS, evT, evE, evEs, Res.bind, Res.out, rd, rdsOf, ofO, Bl.fn, truD, truP, List.getElem?_cons_zero, List.getElem?_cons_succ, List.set_cons_succ, List.set_cons_zero, Option.bind, if_true, Bool.false_eq_true, if_false, e, k1, k2, k3, show cmpP .NotEq = neP from rfl, k4]
theorem near_loop (n : Nat) {k : Nat} (x2 : Option D) {es : List El} (hk : okA es) (items0 : List PD) : ∀ (items : List PD) (h : Hd) (x3 x4 : Option D), SH h k →
    ∃ y3 y4 h', Up h k h' ∧ forRun (.nm 3) ⟨items0, none⟩ (exSs (callN gc Pd (n + 5)) gc w0__law_right) items [some (.ref k), some (.dat (tp es)), x2, x3, x4] h = .nx [some (.ref k), some (.dat (tp es)), x2, y3, y4] h'
  | [], h, x3, x4, s => by
    refine ⟨x3, x4, h, s.up, ?_⟩
    unfold forRun
    rw [if_pos (stays_none _ _)]
  | d :: r, h, x3, x4, s => by
    obtain ⟨y4, h1, u1, e1⟩ := near_turn n s x2 (some (.dat d)) x4 hk
    obtain ⟨z3, z4, h2, u2, e2⟩ := near_loop n x2 hk items0 r h1 (some (.dat d)) y4 (u1.sh s.lt)
    refine ⟨z3, z4, h2, u1.trans u2, ?_⟩
    unfold forRun
    rw [if_pos (stays_none _ _)]
    simp only [bindP, List.set_cons_succ, List.set_cons_zero]
    rw [e1]
    exact e2
theorem c_right (n : Nat) {h : Hd} {k : Nat} (s : SH h k) : ∃ h', callN gc Pd (n + 9) "_law_right" [.ref k] h = .ok (.dat (.bool true)) h' ∧ Up h k h' := by
  obtain ⟨t, ht, h1, e1, u1⟩ := c_pick (n + 6) s (items := [.int 4, .int 1000000000000000000000000000000, .int 999, .int 999999999999999999999999999999]) (by simp) (by simp)
  obtain ⟨far, rfl, hf⟩ : ∃ f : Nat, t = .int f ∧ f ≤ 1000000000000000000000000000000 := by
    simp only [List.mem_cons, List.not_mem_nil, or_false] at ht
    rcases ht with rfl | rfl | rfl | rfl
    · exact ⟨4, rfl, by omega⟩
    · exact ⟨1000000000000000000000000000000, rfl, by omega⟩
    · exact ⟨999, rfl, by omega⟩
    · exact ⟨999999999999999999999999999999, rfl, by omega⟩
  obtain ⟨es, h2, e2, hk, hl, u2⟩ := c_address (n + 5) (u1.sh s.lt) far hf
  have u12 := u1.trans u2
  have s2 := u12.sh s.lt
  have lb : (lenA es : Int) < 10 ^ 40 := by
    have h1 := lenA_le es hk.2
    have h2 := Nat.mul_le_mul_right 10000000000000000000000000000000 hl
    have : 50 * 10000000000000000000000000000000 < 10 ^ 40 := by decide +kernel
    omega
  have k1 := c_law_length (n + 7) h2 hk
  have k2 := c_is_address (n + 3) _ h2 (sz_tp hk)
  rw [addrB_tp hk] at k2
  have k3 := c_length_of (n + 1) h2 hk
  have k4 := repr_int (i := (lenA es : Int)) (by omega) lb
  have k5 := ne_str (PyData.int (lenA es : Int)).shown
  obtain ⟨y3, y4, h3, u3, e3⟩ := near_loop (n + 3) (some (.dat (.int (lenA es)))) hk ((List.range (6 : Int).toNat).map fun (i : Nat) => .int (i : Int)) ((List.range (6 : Int).toNat).map fun (i : Nat) => .int (i : Int)) h2 none none s2
  have fr : exS (callN gc Pd (n + 8)) gc f0__law_right [some (.ref k), some (.dat (tp es)), some (.dat (.int (lenA es))), none, none] h2 = .nx [some (.ref k), some (.dat (tp es)), some (.dat (.int (lenA es))), y3, y4] h3 := by
    rw [f0__law_right, exS]
    have eI : evI (callN gc Pd (n + 8)) gc (.rng (.cons (.con (.int 6)) .nil)) [some (.ref k), some (.dat (tp es)), some (.dat (.int (lenA es))), none, none] h2 = .ok ⟨(List.range (6 : Int).toNat).map fun (i : Nat) => .int (i : Int), none⟩ h2 := by
      simp only [evI, evEs, evE, Res.bind, datsOf, Option.map, Option.bind, rng_nat 6 (by decide) (by decide)]
    rw [eI]
    simp only [Res.out]
    exact e3
  obtain ⟨h4, e4, u4⟩ := c_cuts_right n (u3.sh s2.lt) hk hl
  have ua := (u12.trans u3).trans u4
  have tk : h4.take h.length = h4 := take_up ua
  refine ⟨h4, ?_, ua⟩
  have s4 : 4 ≤ sizeLine := by rw [sizeLine_eq]; omega
  have sb : subP (.int 1000000000000000000000000000000) (.int 1) = some (.int 999999999999999999999999999999) := by rfl
  rw [call_def P_right rfl]
  simp only [runDef, d__law_right, b__law_right]
  by_cases hz : lenA es ≤ 1000
  · have g : leP (.int (lenA es : Int)) (.int 1000) = some (.bool true) := by simp [leP]; omega
    have k6 := c_long_short n h2 hk hz
    have k7 := c_law_rows (n + 7) h2 hk (few_of hk hz) hz
    have k8 := ne_tup (exA es)
    simp only [exSs, exS, evT, evE, evEs, evB, Res.bind, Res.out, rd, rdx, rdsOf, datsOf, mkL, Bl.fn, binP, ofO, leave, truD, truP, List.map_cons, List.map_nil, List.length_cons, List.length_nil, Nat.zero_add, Nat.reduceAdd, Nat.reduceSub, List.replicate, List.cons_append, List.nil_append, List.getElem?_cons_zero, List.getElem?_cons_succ, List.set_cons_succ, List.set_cons_zero, Option.bind, Option.map, if_true, Bool.false_eq_true, if_false, Bool.true_eq_false, pow30, sb, s4, e1, e2, k1, k2, k3, k4, isn_tt, show cmpP .NotEq = neP from rfl, show cmpP .LtE = leP from rfl, k5, g, k6, k7, k8, fr, e4, tk]
  · have g : leP (.int (lenA es : Int)) (.int 1000) = some (.bool false) := by simp [leP]; omega
    have k6 := c_long_long n h2 hk (by omega)
    have k8 := ne_same 1000
    simp only [exSs, exS, evT, evE, evEs, evB, Res.bind, Res.out, rd, rdx, rdsOf, datsOf, mkL, Bl.fn, binP, ofO, leave, truD, truP, List.map_cons, List.map_nil, List.length_cons, List.length_nil, Nat.zero_add, Nat.reduceAdd, Nat.reduceSub, List.replicate, List.cons_append, List.nil_append, List.getElem?_cons_zero, List.getElem?_cons_succ, List.set_cons_succ, List.set_cons_zero, Option.bind, Option.map, if_true, Bool.false_eq_true, if_false, Bool.true_eq_false, pow30, sb, s4, e1, e2, k1, k2, k3, k4, isn_tt, show cmpP .NotEq = neP from rfl, show cmpP .LtE = leP from rfl, k5, g, k6, k8, fr, e4, tk]
end K17

namespace K17
open PySem PySem.Spec PyProof.Rows L2 Mi
/-! ### the law's loops -/
theorem right_turn (n : Nat) {h : Hd} {k : Nat} (s : SH h k) (x0 x1 x2 x4 : Option D) :
    ∃ h', Up h k h' ∧ exSs (callN gc Pd (n + 9)) gc w0_law [x0, x1, x2, some (.ref k), x4] h = .nx [x0, x1, x2, some (.ref k), x4] h' := by
  obtain ⟨h', e, u⟩ := c_right n s
  refine ⟨h', u, ?_⟩
  simp only [w0_law, exSs, exS, evT, evE, evEs, Res.bind, Res.out, rd, truD, truP, List.getElem?_cons_zero, List.getElem?_cons_succ, Option.bind, Bool.not_true, Bool.false_eq_true, if_false, e]
theorem right_loop (n : Nat) {k : Nat} (x0 x1 x2 : Option D) (items0 : List PD) : ∀ (items : List PD) (h : Hd) (x4 : Option D), SH h k →
    ∃ y4 h', Up h k h' ∧ forRun (.nm 4) ⟨items0, none⟩ (exSs (callN gc Pd (n + 9)) gc w0_law) items [x0, x1, x2, some (.ref k), x4] h = .nx [x0, x1, x2, some (.ref k), y4] h'
  | [], h, x4, s => by
    refine ⟨x4, h, s.up, ?_⟩
    unfold forRun
    rw [if_pos (stays_none _ _)]
  | d :: r, h, x4, s => by
    obtain ⟨h1, u1, e1⟩ := right_turn n s x0 x1 x2 (some (.dat d))
    obtain ⟨z4, h2, u2, e2⟩ := right_loop n x0 x1 x2 items0 r h1 (some (.dat d)) (u1.sh s.lt)
    refine ⟨z4, h2, u1.trans u2, ?_⟩
    unfold forRun
    rw [if_pos (stays_none _ _)]
    simp only [bindP, List.set_cons_succ, List.set_cons_zero]
    rw [e1]
    exact e2
theorem cell_turn (n : Nat) (ns : List Int) (i : Nat) (h : Hd) (x2 x3 x4 : Option D) :
    ∃ y3 y4 h', exSs (callN gc Pd (n + 9)) gc w2_law [some (.scr ns), some (.dat (.int i)), x2, x3, x4] h = .nx [some (.scr ns), some (.dat (.int i)), x2, y3, y4] h' := by
  obtain ⟨a, b, ha, e⟩ := c_stream (n + 8) ns i h
  have s : SH (h ++ [.lst [.int a, .int b, .int 0]]) h.length := ⟨a, b, 0, ha, at_end _ _⟩
  obtain ⟨y4, h2, u2, e2⟩ := right_loop n (some (.scr ns)) (some (.dat (.int i))) x2 ((List.range (4 : Int).toNat).map fun (i : Nat) => .int (i : Int)) ((List.range (4 : Int).toNat).map fun (i : Nat) => .int (i : Int)) _ x4 s
  have fr : exS (callN gc Pd (n + 9)) gc f0_law [some (.scr ns), some (.dat (.int i)), x2, some (.ref h.length), x4] (h ++ [.lst [.int a, .int b, .int 0]]) = .nx [some (.scr ns), some (.dat (.int i)), x2, some (.ref h.length), y4] h2 := by
    rw [f0_law, exS]
    have eI : evI (callN gc Pd (n + 9)) gc (.rng (.cons (.con (.int 4)) .nil)) [some (.scr ns), some (.dat (.int i)), x2, some (.ref h.length), x4] (h ++ [.lst [.int a, .int b, .int 0]]) = .ok ⟨(List.range (4 : Int).toNat).map fun (i : Nat) => .int (i : Int), none⟩ (h ++ [.lst [.int a, .int b, .int 0]]) := by
      simp only [evI, evEs, evE, Res.bind, datsOf, Option.map, Option.bind, rng_nat 4 (by decide) (by decide)]
    rw [eI]
    simp only [Res.out]
    exact e2
  refine ⟨some (.ref h.length), y4, h2, ?_⟩
  simp only [w2_law, exSs, exS, evE, evEs, Res.bind, Res.out, List.getElem?_cons_zero, List.getElem?_cons_succ, List.set_cons_succ, List.set_cons_zero, e, fr]
theorem cell_loop (n : Nat) (ns : List Int) (x2 : Option D) (items0 : List PD) : ∀ (items : List PD) (h : Hd) (x1 x3 x4 : Option D), (∀ d ∈ items, ∃ i : Nat, d = .int i) →
    ∃ y1 y3 y4 h', forRun (.nm 1) ⟨items0, none⟩ (exSs (callN gc Pd (n + 9)) gc w2_law) items [some (.scr ns), x1, x2, x3, x4] h = .nx [some (.scr ns), y1, x2, y3, y4] h'
  | [], h, x1, x3, x4, _ => by
    refine ⟨x1, x3, x4, h, ?_⟩
    unfold forRun
    rw [if_pos (stays_none _ _)]
  | d :: r, h, x1, x3, x4, hd => by
    obtain ⟨i, rfl⟩ := hd d List.mem_cons_self
    obtain ⟨y3, y4, h1, e1⟩ := cell_turn n ns i h x2 x3 x4
    obtain ⟨z1, z3, z4, h2, e2⟩ := cell_loop n ns x2 items0 r h1 (some (.dat (.int i))) y3 y4 fun x hx => hd x (List.mem_cons_of_mem _ hx)
    refine ⟨z1, z3, z4, h2, ?_⟩
    unfold forRun
    rw [if_pos (stays_none _ _)]
    simp only [bindP, List.set_cons_succ, List.set_cons_zero]
    rw [e1]
    exact e2
/-! ### the written addresses -/
def elok : El → Bool
  | .one i => decide (0 ≤ i ∧ i ≤ 2)
  | .rep ps t => !ps.isEmpty && decide (ps.length ≤ 10) && ps.all (fun i => decide (0 ≤ i ∧ i ≤ 2)) && decide (t ≤ 1000000000000000000000000000000)
theorem okA_of {es : List El} (h : (decide (es.length ≤ 100) && es.all elok) = true) : okA es := by
  rw [Bool.and_eq_true, List.all_eq_true] at h
  refine ⟨of_decide_eq_true h.1, fun e he => ?_⟩
  have := h.2 e he
  cases e with
  | one i => exact of_decide_eq_true (p := 0 ≤ i ∧ i ≤ 2) this
  | rep ps t =>
    simp only [elok, Bool.and_eq_true, List.all_eq_true] at this
    obtain ⟨⟨⟨h1, h2⟩, h3⟩, h4⟩ := this
    exact ⟨by simpa using h1, of_decide_eq_true h2, fun i hi => of_decide_eq_true (h3 i hi), of_decide_eq_true h4⟩
def w1 : List El := [.rep [0, 1] 500]
def w2 : List El := [.rep [0, 1] 500, .one 2]
def w3 : List El := [.rep [0, 1, 2] 1000000000000000000000000000000, .rep [0] 0, .one 1]
def w4 : List El := [.rep [0] 0, .one 1, .rep [2] 0]
def w5 : List El := [.rep [0, 1] 3, .one 2]
def w6 : List El := [.one 1, .one 2]
theorem ok1 : okA w1 := okA_of (by decide +kernel)
theorem ok2 : okA w2 := okA_of (by decide +kernel)
theorem ok3 : okA w3 := okA_of (by decide +kernel)
theorem ok4 : okA w4 := okA_of (by decide +kernel)
theorem ok5 : okA w5 := okA_of (by decide +kernel)
theorem ok6 : okA w6 := okA_of (by decide +kernel)
theorem ok0 : okA [] := okA_of (by decide +kernel)
section
variable (n : Nat) (h : Hd)
theorem t1 : callN gc Pd (n + 8) "_law_long" [.dat (.tuple [.tuple [.tuple [.int 0, .int 1], .int 500]])] h = .ok (.dat (.tuple ((exA w1).map .int))) h := c_long_short (es := w1) n h ok1 (by decide +kernel)
theorem t2 : callN gc Pd (n + 8) "_law_long" [.dat (.tuple [.tuple [.tuple [.int 0, .int 1], .int 500], .int 2])] h = .ok (.dat (.int 1000)) h := c_long_long (es := w2) n h ok2 (by decide +kernel)
theorem t3 : callN gc Pd (n + 7) "length_of" [.dat (.tuple [.tuple [.tuple [.int 0, .int 1, .int 2], .int 1000000000000000000000000000000], .tuple [.tuple [.int 0], .int 0], .int 1])] h = .ok (.dat (.int 3000000000000000000000000000001)) h := by
  have e := c_length_of (es := w3) n h ok3
  have l : lenA w3 = 3000000000000000000000000000001 := by decide +kernel
  rw [l] at e
  exact e
theorem t0 : callN gc Pd (n + 5) "is_address" [.dat (.tuple [])] h = .ok (.dat (.bool true)) h := c_is_address n (.tuple []) h (sz_tp (es := []) ok0)
theorem tp0 : callN gc Pd (n + 7) "plain" [.dat (.tuple [])] h = .ok (.dat (.tuple [])) h := c_plain (es := []) n h ok0 (by decide +kernel)
theorem t4 : callN gc Pd (n + 7) "cut" [.dat (.tuple [.tuple [.tuple [.int 0], .int 0], .int 1, .tuple [.tuple [.int 2], .int 0]]), .dat (.int 1)] h = .ok (.dat (.tuple [.tuple [.tuple [.int 0], .int 0], .int 1])) h := c_cut (es := w4) n h ok4 1 (by decide +kernel)
theorem t5 : callN gc Pd (n + 7) "cut" [.dat (.tuple [.tuple [.tuple [.int 0, .int 1], .int 3], .int 2]), .dat (.int 6)] h = .ok (.dat (.tuple [.tuple [.tuple [.int 0, .int 1], .int 3]])) h := c_cut (es := w5) n h ok5 6 (by decide +kernel)
theorem t6 : callN gc Pd (n + 7) "cut" [.dat (.tuple [.tuple [.tuple [.int 0, .int 1], .int 3], .int 2]), .dat (.int 1)] h = .ok (.dat (.tuple [.int 0])) h := c_cut (es := w5) n h ok5 1 (by decide +kernel)
theorem t7 : callN gc Pd (n + 7) "cut" [.dat (.tuple [.int 1, .int 2]), .dat (.int 0)] h = .ok (.dat (.tuple [])) h := c_cut (es := w6) n h ok6 0 (by decide +kernel)
end
theorem ne_told (xs : List Int) (a b : Int) : neP (.list [.tuple (xs.map .int), .int a, .int b]) (.list [.tuple (xs.map .int), .int a, .int b]) = some (.bool false) := by
  have s : SeqAt.shaped (.list [.tuple (xs.map .int), .int a, .int b]) = true := shaped_of (by simp [PyData.canLay0, PyData.canLayAll0, ints_lay]) (by simp [PyData.depth, PyData.depthAll, ints_lay])
  unfold neP eqOk
  rw [s]
  simp [PyData.eqv, PyData.eqvAll, ints_eqv]
theorem mul_told : mulP (.tuple [.int 0, .int 1]) (.int 500) = some (.tuple ((exA w1).map .int)) := by
  have := mul_tup (ps := [0, 1]) (t := 500) (by simp) (by simp) (by omega)
  simpa [exA, w1, El.ex] using this
theorem eq_told : eqP (.list [.tuple [.tuple [.tuple [.int 0], .int 0], .int 1], .tuple [.tuple [.tuple [.int 0, .int 1], .int 3]], .tuple [.int 0], .tuple []]) (.list [.tuple [.tuple [.tuple [.int 0], .int 0], .int 1], .tuple [.tuple [.tuple [.int 0, .int 1], .int 3]], .tuple [.int 0], .tuple []]) = some (.bool true) := by
  have s : SeqAt.shaped (.list [.tuple [.tuple [.tuple [.int 0], .int 0], .int 1], .tuple [.tuple [.tuple [.int 0, .int 1], .int 3]], .tuple [.int 0], .tuple []]) = true := shaped_of (by rfl) (by decide +kernel)
  unfold eqP eqOk
  rw [s]
  simp [PyData.eqv, PyData.eqvAll]
theorem ne_nil : neP (.tuple []) (.tuple []) = some (.bool false) := neP_nil []
theorem law_true (ns : List Int) (hl : ns.length ≤ 63) : ∃ h', callN gc Pd 10 "law" [.scr ns] [] = .ok (.dat (.bool true)) h' := by
  let r : Int := if (if (ns.length : Int) < 6 then (ns.length : Int) else 6) > 1 then (if (ns.length : Int) < 6 then (ns.length : Int) else 6) else 1
  have r0 : 0 ≤ r ∧ r < 1000 := by
    simp only [r]
    split <;> split <;> omega
  obtain ⟨y1, y3, y4, h1, e1⟩ := cell_loop 0 ns none ((List.range r.toNat).map fun (i : Nat) => .int (i : Int)) ((List.range r.toNat).map fun (i : Nat) => .int (i : Int)) [] none none none fun d hd => by
    obtain ⟨i, hi, rfl⟩ := List.mem_map.mp hd
    exact ⟨i, rfl⟩
  have fr : exS (callN gc Pd 9) gc f2_law [some (.scr ns), none, none, none, none] [] = .nx [some (.scr ns), y1, none, y3, y4] h1 := by
    rw [f2_law, exS]
    have eI : evI (callN gc Pd 9) gc (.rng (.cons (.blt .max (.cons (.con (.int 1)) (.cons (.blt .min (.cons (.con (.int 6)) (.cons (.blt .len (.cons (.var 0) .nil)) .nil))) .nil))) .nil)) [some (.scr ns), none, none, none, none] [] = .ok ⟨(List.range r.toNat).map fun (i : Nat) => .int (i : Int), none⟩ [] := by
      have m1 : minP [.int 6, .int ((ns.map PyData.int).length : Int)] = some (.int (if (ns.length : Int) < 6 then (ns.length : Int) else 6)) := by rw [min_ints, List.length_map]
      have m2 : maxP [.int 1, .int (if (ns.length : Int) < 6 then (ns.length : Int) else 6)] = some (.int r) := rfl
      clear_value r
      simp only [evI, evEs, evE, Res.bind, rd, rdsOf, Bl.fn, List.getElem?_cons_zero, len_list, ofO, m1, m2, datsOf, Option.map, Option.bind, rng_nat r r0.1 r0.2]
    rw [eI]
    simp only [Res.out]
    exact e1
  refine ⟨[], ?_⟩
  rw [call_def P_law rfl]
  simp only [runDef, d_law, b_law]
  have s0 : 0 ≤ sizeLine := Nat.zero_le _
  have s1 : 1 ≤ sizeLine := one_sz
  have s2 : 2 ≤ sizeLine := by rw [sizeLine_eq]; omega
  have s3 : 3 ≤ sizeLine := by rw [sizeLine_eq]; omega
  have s4 : 4 ≤ sizeLine := by rw [sizeLine_eq]; omega
  have z2 : 2 < sizeLine := by rw [sizeLine_eq]; omega
  have mu : mulP (.int 3) (.int 1000000000000000000000000000000) = some (.int 3000000000000000000000000000000) := mul_small _ (by decide)
  have ad : addP (.int 3000000000000000000000000000000) (.int 1) = some (.int 3000000000000000000000000000001) := by rfl
  have at2 : ∀ o p : Ob, (h1 ++ [o] ++ [p])[h1.length + 1]? = some p := fun o p => by simp
  simp only [exSs, exS, evT, evE, evEs, evB, Res.bind, Res.out, rd, rdx, rdsOf, datsOf, mkL, Bl.fn, binP, ofO, leave, truD, truP, isLst, mthRun, lstRun, Ob.py, List.map_cons, List.map_nil, List.length_cons, List.length_nil, Nat.zero_add, Nat.reduceAdd, Nat.reduceSub, List.replicate, List.cons_append, List.nil_append, List.getElem?_cons_zero, List.getElem?_cons_succ, List.set_cons_succ, List.set_cons_zero, Option.bind, Option.map, if_true, Bool.false_eq_true, if_false, Bool.true_eq_false, fr, s0, s1, s2, s3, s4, z2, t1 1, t2 1, t3 2, t0 4, tp0 2, t4 2, t5 2, t6 2, t7 2, pow30, mu, ad, at_end, set_end, mul_told, show cmpP .NotEq = neP from rfl, show cmpP .Eq = eqP from rfl, ne_told, isn_tt, ne_nil, List.length_append, at2, eq_told, List.take_zero]
end K17

namespace K17
open PySem PySem.Spec PyProof.Rows L2 Mi
theorem ff_mk {K : Frg} {nm : Str} {st : Stmt} {f : Addr} {oc : Value} {od : Option Addr} {kV dc pm : Value} {an : Option Addr} {cd ct : Value} {sl : Array (Option Value)} (a : PySem.W.nsIn K mainGlobals nm = some (some (.ref f))) (l : K.lookup f = some ⟨oc, od, .func (PySem.W.fnOf nm nm (defArgs st) (defBody st) (defScope st) .none kV dc pm an cd ct), sl⟩)
    (c : PySem.W.codeIn K cd nm = true) (k : PySem.W.keepIn K (.ref f) = true) : FF K nm st := ⟨_, _, _, _, _, _, _, _, _, _, a, l, c, k⟩
def methS (i j : Nat) : Stmt := match topS i with
  | .ClassDef _ _ _ body _ _ _ _ _ _ _ => body.getD j (.Pass ⟨0, 0, 0, 0⟩)
  | s => s
theorem xf_mk {K : Frg} {c f : Str} {B newId initId : String} {bm : List Value} {st : Stmt} {qual : Str} {C fI : Addr} {oc : Value} {od : Option Addr} {kV dc pm : Value} {an : Option Addr} {cd ct : Value} {sl : Array (Option Value)}
    {nm q : Str} {N : Addr} {bs : List Value} {sn : List Str} {sub : List Value} {ab : Bool} {col : Option Bool} {dd : Option Addr} {k0 k1 k2 k3 k5 : Option Value}
    (x1 : PySem.W.nsIn K mainGlobals c = some (some (.ref C))) (x2 : K.lookup C = some (excClassObj nm q C N bs bm true sn sub ab col dd k0 k1 k2 k3 k5 newId))
    (x3 : PySem.W.findIn K (.ref C) "__setattr__" = some (some (.builtin "object.__setattr__"))) (x4 : PySem.W.subIn K (.ref C) (.type "BaseException") = some true) (x5 : PySem.W.typeIn K (.ref C) = some (.type "type")) (x6 : PySem.W.keepIn K (.ref C) = true)
    (x7 : PySem.W.findIn K (.ref C) "__init__" = some (some (.ref fI))) (x8 : PySem.W.typeIn K (.ref fI) = some (.type "function"))
    (x9 : K.lookup fI = some ⟨oc, od, .func (PySem.W.fnOf "__init__" qual (defArgs st) (defBody st) (defScope st) .none kV dc pm an cd ct), sl⟩) (x10 : PySem.W.codeIn K cd qual = true) (x11 : PySem.W.keepIn K (.ref fI) = true)
    (x12 : PySem.W.findIn K (.ref C) f = some none) (x13 : PySem.W.findIn K (.ref C) "__getattribute__" = some (some (.builtin "BaseException.__getattribute__"))) (x14 : PySem.W.findIn K (.ref C) "__getattr__" = some none) (x17 : PySem.W.hasDictIn K C = true) (x18 : PySem.W.isClsIn K C = true) (x19 : PySem.W.subIn K (.ref C) (.ref C) = some true) (x15 : PySem.W.findCls K (.type B) (.type "type") "__init__" = some (.val (.builtin initId))) (x16 : PySem.W.nsIn K mainGlobals (Str.ofString B) = some none) :
    XF K c f B newId initId bm st qual := by
  have y1 : xfB K C = true := by
    unfold xfB
    rw [decide_eq_true x13, decide_eq_true x14, decide_eq_true x4, x17]
    rfl
  have y2 : PySem.W.exmOne K (.ref C) (.ref C) = some true := by
    have e2 : (PySem.W.clsIn K C).isSome = true := x18
    unfold PySem.W.exmOne
    rw [x4, if_pos (by rfl)]
    show (if ((PySem.W.clsIn K C).isSome && PySem.W.typeIn K (.ref C) == some (.type "type")) = true then PySem.W.subIn K (.ref C) (.ref C) else none) = some true
    rw [e2, x5, if_pos (by rfl), x19]
  exact ⟨C, fI, oc, od, kV, dc, pm, an, cd, ct, sl, x1, ⟨nm, q, N, bs, sn, sub, ab, col, dd, k0, k1, k2, k3, k5, x2⟩, x3, x4, x5, x6, x7, x8, x9, x10, x11, x12, y1, y2, x15, x16⟩
theorem cv_mk {K : Frg} {t1 t2 t3 : Tok} (h1 : PySem.W.nsIn K mainGlobals "MAX_TIMES" = some (some (.int 1000000000000000000000000000000 t1))) (h2 : PySem.W.nsIn K mainGlobals "MAX_STEPS" = some (some (.int 1000 t2))) (h3 : PySem.W.nsIn K mainGlobals "LAST_CHILD" = some (some (.int 2 t3))) :
    ∀ x d, gc x = some d → ∃ u v, PySem.W.nsIn K mainGlobals x = some (some u) ∧ RelV v u ∧ ∀ r H, RP K r H v d := by
  intro x d h
  unfold gc gcL at h
  rw [List.lookup_cons] at h
  split at h
  · rename_i e
    have e := beq_iff_eq.mp e
    subst e
    cases h
    exact ⟨_, .int _, h1, ⟨_, rfl⟩, fun _ _ => .int _⟩
  · rw [List.lookup_cons] at h
    split at h
    · rename_i e
      have e := beq_iff_eq.mp e
      subst e
      cases h
      exact ⟨_, .int _, h2, ⟨_, rfl⟩, fun _ _ => .int _⟩
    · rw [List.lookup_cons] at h
      split at h
      · rename_i e
        have e := beq_iff_eq.mp e
        subst e
        cases h
        exact ⟨_, .int _, h3, ⟨_, rfl⟩, fun _ _ => .int _⟩
      · cases h
abbrev sI : Stmt := methS 4 0
theorem scI : FnScope ["self", "limit"] ["self", "limit"] (defScope sI) := ⟨rfl, rfl, rfl, by decide +kernel, rfl, by decide +kernel, by decide +kernel⟩
abbrev bmO : List Value := [.type "OverflowError", .type "ArithmeticError", .type "Exception", .type "BaseException", .type "object"]
theorem all_mk {P : Program} {w : World} {K : Frg} {h : Heap} {mg : Str → Option Value} {fa : Addr} (kin : K.In h) (G : h.Ns mainGlobals mg) (hfa : mg "law" = some (.ref fa)) (T : Facts K) (xf : XF K "TooMany" "limit" "OverflowError" "OverflowError.__new__" "OverflowError.__init__" bmO sI "TooMany.__init__")
    (bl : ∀ x ∈ bltNames, PySem.W.nsIn K mainGlobals x = some none) (cv : ∀ x d, gc x = some d → ∃ u v, PySem.W.nsIn K mainGlobals x = some (some u) ∧ RelV v u ∧ ∀ r H, RP K r H v d) :
    ∃ fd : FuncData, (∀ (s : Shared) (v : Value), BindsTo s fd ⟨[v], []⟩ [("_law_script", v)]) ∧ ∀ base : Heap, K.In base → base.Ns mainGlobals mg → FnG P w K mg base 12 fa fd ["_law_script"] (spL gc Pd 10 K) := by
  have tb := tab kin G T
  obtain ⟨a, oc, od, kV, dc, pm, an, cd, ct, sl, h1, h2, h3, h4⟩ := T.f_law
  have e := hfa.symm.trans (PySem.W.mg_of kin G h1)
  cases e
  refine ⟨PySem.W.fnOf "law" "law" (defArgs s_law) (defBody s_law) (defScope s_law) .none kV dc pm an cd ct, fun s v => .of_eq rfl, fun base kb Gb => ?_⟩
  have R : Row K mg fs cs xs Pd "law" fa (PySem.W.fnOf "law" "law" (defArgs s_law) (defBody s_law) (defScope s_law) .none kV dc pm an cd ct) ["_law_script"] :=
    ⟨"law", "law", s_law, N_law, d_law, fun_mk (st := s_law) h2 h3 h4, sc_law, hfa, Binds.all fun us hl => match us, hl with | [_], _ => rfl, rfl, rfl, rfl, ck_law⟩
  refine fn_all tb (fun x hx => hx) (fun x d hx => ?_) (fun x hx => PySem.W.mg_none_of kin G (bl x hx)) (fun c f hc => ?_) 10 "law" fa _ _ R
  · obtain ⟨u, v, z1, z2, z3⟩ := cv x d hx
    exact ⟨u, v, PySem.W.mg_of kin G z1, z2, z3⟩
  · have hc' : c = "TooMany" ∧ f = "limit" := by
      unfold xs xsL at hc
      rw [List.lookup_cons] at hc
      split at hc
      · rename_i he
        cases hc
        exact ⟨by simpa using he, rfl⟩
      · cases hc
    obtain ⟨rfl, rfl⟩ := hc'
    exact xc_of kin G F.excBase_OverflowError F.store_OverflowError rfl (by kernel_rfl) (by decide +kernel) (by decide +kernel) (by decide +kernel) (by decide +kernel) scI (by decide +kernel) (by decide +kernel) (by decide +kernel) (by decide +kernel) (by decide +kernel) (by decide +kernel)
      (fun _ _ _ _ _ _ us hl => match us, hl with | [_, _], _ => rfl) xf
end K17

set_option pp.maxSteps 300
open PySem PySem.W PyProof.Rows
set_option maxHeartbeats 0 in
theorem PySem.Challenge.cw_sharedlets_k17_forms_of_addresses_holds : PySem.Challenge.rw_sharedlets_k17_forms_of_addresses.Holds := by
  w_on; o_law; k_head; (case hw => w_witness2)
  k_fill
  refine Mi.walkG_ofK (l := PySem.Challenge.rw_sharedlets_k17_forms_of_addresses) (n := 63) (k := 12) (x := "_law_script") (sp := Mi.spL K17.gc K17.Pd 10) rfl (by decide) rfl ⟨rfl, by decide, by decide⟩ (fun w h Y => PySem.W.kIn_of Y) ?F (fun K H a ns hl _ hS => Mi.spL_of (K17.law_true ns hl) K H a hS)
  case F =>
    intro w mg fa h KX G hmg
    refine' K17.all_mk KX G hmg ?T ?X ?B ?C
    case T =>
      constructor
      · (refine' K17.ff_mk ?a ?l ?c ?k); (case a => k_is); (case l => k_is); (case c => k_is); (case k => k_is)
      · (refine' K17.ff_mk ?a ?l ?c ?k); (case a => k_is); (case l => k_is); (case c => k_is); (case k => k_is)
      · (refine' K17.ff_mk ?a ?l ?c ?k); (case a => k_is); (case l => k_is); (case c => k_is); (case k => k_is)
      · (refine' K17.ff_mk ?a ?l ?c ?k); (case a => k_is); (case l => k_is); (case c => k_is); (case k => k_is)
      · (refine' K17.ff_mk ?a ?l ?c ?k); (case a => k_is); (case l => k_is); (case c => k_is); (case k => k_is)
      · (refine' K17.ff_mk ?a ?l ?c ?k); (case a => k_is); (case l => k_is); (case c => k_is); (case k => k_is)
      · (refine' K17.ff_mk ?a ?l ?c ?k); (case a => k_is); (case l => k_is); (case c => k_is); (case k => k_is)
      · (refine' K17.ff_mk ?a ?l ?c ?k); (case a => k_is); (case l => k_is); (case c => k_is); (case k => k_is)
      · (refine' K17.ff_mk ?a ?l ?c ?k); (case a => k_is); (case l => k_is); (case c => k_is); (case k => k_is)
      · (refine' K17.ff_mk ?a ?l ?c ?k); (case a => k_is); (case l => k_is); (case c => k_is); (case k => k_is)
      · (refine' K17.ff_mk ?a ?l ?c ?k); (case a => k_is); (case l => k_is); (case c => k_is); (case k => k_is)
      · (refine' K17.ff_mk ?a ?l ?c ?k); (case a => k_is); (case l => k_is); (case c => k_is); (case k => k_is)
      · (refine' K17.ff_mk ?a ?l ?c ?k); (case a => k_is); (case l => k_is); (case c => k_is); (case k => k_is)
      · (refine' K17.ff_mk ?a ?l ?c ?k); (case a => k_is); (case l => k_is); (case c => k_is); (case k => k_is)
      · (refine' K17.ff_mk ?a ?l ?c ?k); (case a => k_is); (case l => k_is); (case c => k_is); (case k => k_is)
      · (refine' K17.ff_mk ?a ?l ?c ?k); (case a => k_is); (case l => k_is); (case c => k_is); (case k => k_is)
      · (refine' K17.ff_mk ?a ?l ?c ?k); (case a => k_is); (case l => k_is); (case c => k_is); (case k => k_is)
      · (refine' K17.ff_mk ?a ?l ?c ?k); (case a => k_is); (case l => k_is); (case c => k_is); (case k => k_is)
      · (refine' K17.ff_mk ?a ?l ?c ?k); (case a => k_is); (case l => k_is); (case c => k_is); (case k => k_is)
      · (refine' K17.ff_mk ?a ?l ?c ?k); (case a => k_is); (case l => k_is); (case c => k_is); (case k => k_is)
      · (refine' K17.ff_mk ?a ?l ?c ?k); (case a => k_is); (case l => k_is); (case c => k_is); (case k => k_is)
      · (refine' K17.ff_mk ?a ?l ?c ?k); (case a => k_is); (case l => k_is); (case c => k_is); (case k => k_is)
      · (refine' K17.ff_mk ?a ?l ?c ?k); (case a => k_is); (case l => k_is); (case c => k_is); (case k => k_is)
      · (refine' K17.ff_mk ?a ?l ?c ?k); (case a => k_is); (case l => k_is); (case c => k_is); (case k => k_is)
      · (refine' K17.ff_mk ?a ?l ?c ?k); (case a => k_is); (case l => k_is); (case c => k_is); (case k => k_is)
      · (refine' K17.ff_mk ?a ?l ?c ?k); (case a => k_is); (case l => k_is); (case c => k_is); (case k => k_is)
      · (refine' K17.ff_mk ?a ?l ?c ?k); (case a => k_is); (case l => k_is); (case c => k_is); (case k => k_is)
      · (refine' K17.ff_mk ?a ?l ?c ?k); (case a => k_is); (case l => k_is); (case c => k_is); (case k => k_is)
      · (refine' K17.ff_mk ?a ?l ?c ?k); (case a => k_is); (case l => k_is); (case c => k_is); (case k => k_is)
    case X =>
      refine' K17.xf_mk ?x1 ?x2 ?x3 ?x4 ?x5 ?x6 ?x7 ?x8 ?x9 ?x10 ?x11 ?x12 ?x13 ?x14 ?x17 ?x18 ?x19 ?x15 ?x16
      (case x1 => k_is)
      (case x2 => k_is)
      (case x3 => k_is)
      (case x4 => k_is)
      (case x5 => k_is)
      (case x6 => k_is)
      (case x7 => k_is)
      (case x8 => k_is)
      (case x9 => k_is)
      (case x10 => k_is)
      (case x11 => k_is)
      (case x12 => k_is)
      (case x13 => k_is)
      (case x14 => k_is)
      (case x17 => k_is)
      (case x18 => k_is)
      (case x19 => k_is)
      (case x15 => k_is)
      (case x16 => k_is)
    case B =>
      intro x hx
      (rcases List.mem_cons.mp hx with rfl | hx); (· k_is)
      (rcases List.mem_cons.mp hx with rfl | hx); (· k_is)
      (rcases List.mem_cons.mp hx with rfl | hx); (· k_is)
      (rcases List.mem_cons.mp hx with rfl | hx); (· k_is)
      (rcases List.mem_cons.mp hx with rfl | hx); (· k_is)
      (rcases List.mem_cons.mp hx with rfl | hx); (· k_is)
      (rcases List.mem_cons.mp hx with rfl | hx); (· k_is)
      (rcases List.mem_cons.mp hx with rfl | hx); (· k_is)
      (rcases List.mem_cons.mp hx with rfl | hx); (· k_is)
      (rcases List.mem_cons.mp hx with rfl | hx); (· k_is)
      (rcases List.mem_cons.mp hx with rfl | hx); (· k_is)
      (rcases List.mem_cons.mp hx with rfl | hx); (· k_is)
      (rcases List.mem_cons.mp hx with rfl | hx); (· k_is)
      (rcases List.mem_cons.mp hx with rfl | hx); (· k_is)
      (rcases List.mem_cons.mp hx with rfl | hx); (· k_is)
      (rcases List.mem_cons.mp hx with rfl | hx); (· k_is)
      (rcases List.mem_cons.mp hx with rfl | hx); (· k_is)
      (rcases List.mem_cons.mp hx with rfl | hx); (· k_is)
      (rcases List.mem_cons.mp hx with rfl | hx); (· k_is)
      (rcases List.mem_cons.mp hx with rfl | hx); (· k_is)
      cases hx
    case C =>
      refine' K17.cv_mk ?c1 ?c2 ?c3
      (case c1 => k_is)
      (case c2 => k_is)
      (case c3 => k_is)
