import PyProof.Rows.All
import Wide.All
import OpenK.AllK
import Wide.FinOn
import HandS.ForMost
import HandS.ForExc
import HandS.TupAny
import HandS.TupMul
import HandS.IsInst
import HandS.Flow
import HandS.ExcValue
import HandS.ExcInit
import HandS.ExcIs
import PyProof.NeKinds
import HandS.CallSlots
import HandS.Star
import HandS.WordsExc
import KE.KExcInit
import PyProof.ExcBaseAll.LookupError
import PyProof.Rows.FactsExc_KeyError
import PyProof.ExcBaseAll.OverflowError
import PyProof.ExcBaseAll.IndexError
import HandS.Wide
import HandS.WideBits
import HandS.Style
import HandS.Conv
import HandS.Deep
import PyProof.Rows.RuleB_pow
import PyProof.ReprRoads
import PyProof.CallFns
import PyProof.RowDictHeap
import HandS.ExcField
import KE.KExcIs
import PyProof.ExcBaseAll.ValueError
import PyProof.ExcBaseAll.RuntimeError
import PySem.Challenge.RW_sharedlets_k00_errors
set_option Elab.async false
set_option linter.all false
set_option maxRecDepth 100000
set_option maxHeartbeats 4000000
/-! Mi: plain data (PyData) and a small heap of mutable objects, and how they stand in the layer's abstract heap. -/
namespace Mi
open PySem PySem.Spec PyProof.Rows L2

abbrev Frg := PySem.W.Frag
/-- the addresses of the heap's objects; what is hidden besides -/
structure Rho where
  at_ : List Addr
  hid : List Addr
def Off (r : Rho) (a : Addr) : Prop := a ∉ r.at_ ∧ a ∉ r.hid
def Rho.push (r : Rho) (p : Addr) : Rho := ⟨r.at_ ++ [p], r.hid⟩
def Rho.hide (r : Rho) (p : Addr) : Rho := ⟨r.at_, p :: r.hid⟩
def Trk (r : Rho) (H : L2.Hp) : Prop := ∀ a, (a ∈ r.at_ ∨ a ∈ r.hid) → H a ≠ none
theorem Trk.off {r : Rho} {H : L2.Hp} (t : Trk r H) {p : Addr} (hp : H p = none) : Off r p := ⟨fun z => t p (.inl z) hp, fun z => t p (.inr z) hp⟩
abbrev PD := PyData

/-- a written tuple -/
def WrT (K : Frg) (a : Addr) (xs : List V) : Prop :=
  ∃ (o : Obj) (its : Array Value) (n : Nat), K.lookup a = some o ∧ o.cls = .type "tuple" ∧ o.data = .seq its n ∧ its.size ≤ sizeLine ∧ Vals xs its.toList
def StT (K : Frg) (r : Rho) (H : Hp) (a : Addr) (xs : List V) : Prop := (Rd H a (.tup xs) ∧ Off r a) ∨ WrT K a xs
theorem StT.sq {K : Frg} {r : Rho} {H : Hp} {a : Addr} {xs : List V} (h : StT K r H a xs) : SqT K H a xs := by
  rcases h with ⟨h, _⟩ | h
  · exact .inl h
  · exact .inr h
def kP : Key → PD
  | .inl i => .int i
  | .inr x => .str x

/-- the classes of the module -/
def caK (K : Frg) (c : Str) : Option Addr := match PySem.W.nsIn K mainGlobals c with
  | some (some (.ref a)) => some a
  | _ => none
mutual
/-- v is the data d, where nothing of the heap r reaches it; an own exception is told as a dict with the key None: its class, or its class, its field's name and value -/
inductive RP (K : Frg) (r : Rho) (H : Hp) : V → PD → Prop
  | non : RP K r H .non .none
  | bl (b : Bool) : RP K r H (.bl b) (.bool b)
  | int (i : Int) : RP K r H (.int i) (.int i)
  | str (x : Str) : RP K r H (.str x) (.str x)
  | lst {a : Addr} {xs : List V} {ds : List PD} : H a = some (.lst xs) → Off r a → RPs K r H xs ds → RP K r H (.ref a) (.list ds)
  | tup {a : Addr} {xs : List V} {ds : List PD} : StT K r H a xs → RPs K r H xs ds → RP K r H (.ref a) (.tuple ds)
  | dct {a : Addr} {kvs : List (Key × V)} {ds : List (PD × PD)} : Rd H a (.dK kvs) → Off r a → RPk K r H kvs ds → RP K r H (.ref a) (.dict ds)
  | xc0 {a C : Addr} {c : Str} : caK K c = some C → H a = some (ExO (.ref C) a) → Off r a → RP K r H (.ref a) (.dict [(.none, .str c)])
  | xcv {a C dx : Addr} {c f : Str} {v : V} {d : PD} : caK K c = some C → H a = some (exo a C (some dx)) → H dx = some (exd dx [(f, v)]) → Off r a → Off r dx → RP K r H v d → RP K r H (.ref a) (.dict [(.none, .tuple [.str c, .str f, d])])
inductive RPs (K : Frg) (r : Rho) (H : Hp) : List V → List PD → Prop
  | nil : RPs K r H [] []
  | cons {v : V} {vs : List V} {d : PD} {ds : List PD} : RP K r H v d → RPs K r H vs ds → RPs K r H (v :: vs) (d :: ds)
inductive RPk (K : Frg) (r : Rho) (H : Hp) : List (Key × V) → List (PD × PD) → Prop
  | nil : RPk K r H [] []
  | cons {k : Key} {v : V} {vs : List (Key × V)} {d : PD} {ds : List (PD × PD)} : RP K r H v d → RPk K r H vs ds → RPk K r H ((k, v) :: vs) ((kP k, d) :: ds)
end

/-- what stood, out of the heap r, stands -/
structure Stb (r : Rho) (H : Hp) (r' : Rho) (H' : Hp) : Prop where
  rd : ∀ a u, Rd H a u → Off r a → Rd H' a u ∧ Off r' a
  ex : ∀ a (u : HO), H a = some u → Off r a → H' a = some u
/-- .. and the heap grows at its end, what is hidden stays -/
structure Ext (r : Rho) (H : Hp) (r' : Rho) (H' : Hp) : Prop where
  stb : Stb r H r' H'
  pre : ∃ t, r'.at_ = r.at_ ++ t
  hd : r'.hid = r.hid
  hk : ∀ a ∈ r.hid, H' a = H a
theorem Stb.refl (r : Rho) (H : Hp) : Stb r H r H := ⟨fun _ _ h n => ⟨h, n⟩, fun _ _ h _ => h⟩
theorem Ext.refl (r : Rho) (H : Hp) : Ext r H r H := ⟨.refl r H, ⟨[], by simp⟩, rfl, fun _ _ => rfl⟩
theorem Stb.trans {r r1 r2 : Rho} {H H1 H2 : Hp} (a : Stb r H r1 H1) (b : Stb r1 H1 r2 H2) : Stb r H r2 H2 := by
  refine ⟨fun c u h n => ?_, fun c xs h n => ?_⟩
  · obtain ⟨h1, n1⟩ := a.rd c u h n
    exact b.rd c u h1 n1
  · exact b.ex c xs (a.ex c xs h n) (a.rd c _ (.inl h) n).2
theorem Ext.trans {r r1 r2 : Rho} {H H1 H2 : Hp} (a : Ext r H r1 H1) (b : Ext r1 H1 r2 H2) : Ext r H r2 H2 := by
  refine ⟨a.stb.trans b.stb, ?_, b.hd.trans a.hd, fun c hc => (b.hk c (by rw [a.hd]; exact hc)).trans (a.hk c hc)⟩
  obtain ⟨t, e1⟩ := a.pre
  obtain ⟨t', e2⟩ := b.pre
  exact ⟨t ++ t', by rw [e2, e1]; simp⟩
theorem rd_some {H : Hp} {a : Addr} {u : HO} (h : Rd H a u) : ∃ o, H a = some o := by
  rcases h with h | ⟨o, h⟩
  · exact ⟨_, h⟩
  · exact ⟨_, h⟩
theorem rd_upd {H : Hp} {a p : Addr} {u o : HO} (h : Rd H a u) (ne : a ≠ p) : Rd (upd H p o) a u := by
  rcases h with h | ⟨w, h⟩
  · exact .inl (by rw [upd_ne ne]; exact h)
  · exact .inr ⟨w, by rw [upd_ne ne]; exact h⟩
theorem rd_ne {H : Hp} {a p : Addr} {u : HO} (h : Rd H a u) (hp : H p = none) : a ≠ p := by
  obtain ⟨o, e⟩ := rd_some h
  exact ne_of_none e hp
theorem rd_same {H H' : Hp} {a : Addr} {u : HO} (e : Same H H') (h : Rd H a u) : Rd H' a u := by
  rcases h with h | ⟨w, h⟩
  · exact .inl (e _ _ h)
  · exact .inr ⟨w, e _ _ h⟩
theorem Stb.same {r : Rho} {H H' : Hp} (e : Same H H') : Stb r H r H' := ⟨fun _ _ h n => ⟨rd_same e h, n⟩, fun _ _ h _ => e _ _ h⟩
theorem Ext.same {r : Rho} {H H' : Hp} (t : Trk r H) (e : Same H H') : Ext r H r H' := ⟨.same e, ⟨[], by simp⟩, rfl, fun a ha => by
  cases q : H a with
  | none => exact absurd q (t a (.inr ha))
  | some o => exact e a o q⟩
theorem same_new {H : Hp} {p : Addr} {o : HO} (h : H p = none) : Same H (upd H p o) := fun b x e => by
  rw [upd_ne (ne_of_none e h)]
  exact e
theorem Ext.newM {r : Rho} {H : Hp} {p : Addr} {o : HO} (t : Trk r H) (h : H p = none) : Ext r H (r.push p) (upd H p o) := by
  refine ⟨⟨fun a u q n => ⟨rd_upd q (rd_ne q h), fun z => ?_, n.2⟩, fun a xs q n => by rw [upd_ne (ne_of_none q h)]; exact q⟩, ⟨[p], rfl⟩, rfl, fun a ha => ?_⟩
  · rcases List.mem_append.mp z with z | z
    · exact n.1 z
    · exact rd_ne q h (by simpa using z)
  · exact upd_ne fun e => t a (.inr ha) (by rw [e]; exact h)
theorem Ext.mut {r : Rho} {H : Hp} {p : Addr} {o : HO} (h : p ∈ r.at_) (hh : p ∉ r.hid) : Ext r H r (upd H p o) :=
  ⟨⟨fun a u q n => ⟨rd_upd q (fun e => n.1 (e ▸ h)), n⟩, fun a xs q n => by rw [upd_ne (show a ≠ p from fun e => n.1 (e ▸ h))]; exact q⟩, ⟨[], by simp⟩, rfl, fun a ha => upd_ne fun e => hh (e ▸ ha)⟩

section
variable {K : Frg} {r r' : Rho} {H H' : Hp}
theorem StT.mono (e : Stb r H r' H') {a : Addr} {xs : List V} (h : StT K r H a xs) : StT K r' H' a xs := by
  rcases h with ⟨h, n⟩ | h
  · exact .inl (e.rd _ _ h n)
  · exact .inr h
theorem RP.dict_inv {v : V} {ds : List (PD × PD)} (h : RP K r H v (.dict ds)) : (∃ a kvs, v = .ref a ∧ Rd H a (.dK kvs) ∧ Off r a ∧ RPk K r H kvs ds) ∨ (∃ a C c, v = .ref a ∧ ds = [(.none, .str c)] ∧ caK K c = some C ∧ H a = some (ExO (.ref C) a) ∧ Off r a) ∨
    ∃ a C dx c f w d, v = .ref a ∧ ds = [(.none, .tuple [.str c, .str f, d])] ∧ caK K c = some C ∧ H a = some (exo a C (some dx)) ∧ H dx = some (exd dx [(f, w)]) ∧ Off r a ∧ Off r dx ∧ RP K r H w d := by
  cases h with
  | dct h1 h2 h3 => exact .inl ⟨_, _, rfl, h1, h2, h3⟩
  | xc0 h1 h2 h3 => exact .inr (.inl ⟨_, _, _, rfl, rfl, h1, h2, h3⟩)
  | xcv h1 h2 h3 h4 h5 h6 => exact .inr (.inr ⟨_, _, _, _, _, _, _, rfl, rfl, h1, h2, h3, h4, h5, h6⟩)
mutual
theorem RP.mono (e : Stb r H r' H') : ∀ (d : PD) (v : V), RP K r H v d → RP K r' H' v d
  | .none, _, h => by cases h; exact .non
  | .bool b, _, h => by cases h; exact .bl b
  | .int i, _, h => by cases h; exact .int i
  | .str x, _, h => by cases h; exact .str x
  | .list ds, _, h => by
    cases h with
    | lst h1 h2 h3 => exact .lst (e.ex _ _ h1 h2) (e.rd _ _ (.inl h1) h2).2 (RPs.mono e ds _ h3)
  | .tuple ds, _, h => by
    cases h with
    | tup h1 h2 => exact .tup (h1.mono e) (RPs.mono e ds _ h2)
  | .dict ds, v, h => by
    rcases h.dict_inv with ⟨a, kvs, rfl, h1, h2, h3⟩ | ⟨a, C, c, rfl, rfl, h1, h2, h3⟩ | ⟨a, C, dx, c, f, w, d, rfl, ed, h1, h2, h3, h4, h5, h6⟩
    · obtain ⟨q1, q2⟩ := e.rd _ _ h1 h2
      exact .dct q1 q2 (RPk.mono e ds _ h3)
    · exact .xc0 h1 (e.ex _ _ h2 h3) (e.rd _ _ (.inl h2) h3).2
    · have hd : sizeOf d < sizeOf (PyData.dict ds) := by rw [ed]; simp; omega
      have h7 := RP.mono e d w h6
      subst ed
      exact .xcv h1 (e.ex _ _ h2 h4) (e.ex _ _ h3 h5) (e.rd _ _ (.inl h2) h4).2 (e.rd _ _ (.inl h3) h5).2 h7
termination_by d => sizeOf d
decreasing_by all_goals first | assumption | (simp_wf; done) | (simp_wf; omega)
theorem RPs.mono (e : Stb r H r' H') : ∀ (ds : List PD) (vs : List V), RPs K r H vs ds → RPs K r' H' vs ds
  | [], _, h => by cases h; exact .nil
  | d :: ds, _, h => by
    cases h with
    | cons h1 h2 => exact .cons (RP.mono e d _ h1) (RPs.mono e ds _ h2)
termination_by ds => sizeOf ds
decreasing_by all_goals first | assumption | (simp_wf; done) | (simp_wf; omega)
theorem RPk.mono (e : Stb r H r' H') : ∀ (ds : List (PD × PD)) (vs : List (Key × V)), RPk K r H vs ds → RPk K r' H' vs ds
  | [], _, h => by cases h; exact .nil
  | (k, d) :: ds, _, h => by
    cases h with
    | cons h1 h2 => exact .cons (RP.mono e d _ h1) (RPk.mono e ds _ h2)
termination_by ds => sizeOf ds
decreasing_by all_goals first | assumption | (simp_wf; done) | (simp_wf; omega)
end
theorem RP.sm {d : PD} {v : V} (h : RP K r H v d) (e : Same H H') : RP K r H' v d := RP.mono (.same e) d v h
theorem RPs.sm {d : List PD} {v : List V} (h : RPs K r H v d) (e : Same H H') : RPs K r H' v d := RPs.mono (.same e) d v h
theorem RP.ext {d : PD} {v : V} (h : RP K r H v d) (e : Ext r H r' H') : RP K r' H' v d := RP.mono e.stb d v h
theorem RPs.ext {d : List PD} {v : List V} (h : RPs K r H v d) (e : Ext r H r' H') : RPs K r' H' v d := RPs.mono e.stb d v h
theorem RPk.ext {d : List (PD × PD)} {v : List (Key × V)} (h : RPk K r H v d) (e : Ext r H r' H') : RPk K r' H' v d := RPk.mono e.stb d v h
theorem RPs.length {ds : List PD} {vs : List V} (h : RPs K r H vs ds) : vs.length = ds.length := by
  induction ds generalizing vs with
  | nil => cases h; rfl
  | cons d ds ih =>
    cases h with
    | cons h1 h2 => simp [ih h2]
theorem RPs.get {ds : List PD} {vs : List V} (h : RPs K r H vs ds) {i : Nat} {d : PD} (e : ds[i]? = some d) : ∃ v, vs[i]? = some v ∧ RP K r H v d := by
  induction ds generalizing vs i with
  | nil => simp at e
  | cons c ds ih =>
    cases h with
    | cons h1 h2 =>
      cases i with
      | zero => simp at e; subst e; exact ⟨_, rfl, h1⟩
      | succ i => simp at e; obtain ⟨v, q1, q2⟩ := ih h2 e; exact ⟨v, by simpa using q1, q2⟩
theorem RPs.append {ds es : List PD} {vs us : List V} (h : RPs K r H vs ds) (h' : RPs K r H us es) : RPs K r H (vs ++ us) (ds ++ es) := by
  induction ds generalizing vs with
  | nil => cases h; exact h'
  | cons d ds ih =>
    cases h with
    | cons h1 h2 => exact .cons h1 (ih h2)
theorem RPs.take {ds : List PD} {vs : List V} (h : RPs K r H vs ds) (n : Nat) : RPs K r H (vs.take n) (ds.take n) := by
  induction ds generalizing vs n with
  | nil => cases h; simp; exact .nil
  | cons d ds ih =>
    cases h with
    | cons h1 h2 =>
      cases n with
      | zero => exact .nil
      | succ n => exact .cons h1 (ih h2 n)
theorem RPs.drop {ds : List PD} {vs : List V} (h : RPs K r H vs ds) (n : Nat) : RPs K r H (vs.drop n) (ds.drop n) := by
  induction ds generalizing vs n with
  | nil => cases h; simp; exact .nil
  | cons d ds ih =>
    cases h with
    | cons h1 h2 =>
      cases n with
      | zero => exact .cons h1 h2
      | succ n => exact ih h2 n
theorem RPs.eraseIdx {ds : List PD} {vs : List V} (h : RPs K r H vs ds) (n : Nat) : RPs K r H (vs.eraseIdx n) (ds.eraseIdx n) := by
  induction ds generalizing vs n with
  | nil => cases h; exact .nil
  | cons d ds ih =>
    cases h with
    | cons h1 h2 =>
      cases n with
      | zero => exact h2
      | succ n => exact .cons h1 (ih h2 n)
theorem RPs.set {ds : List PD} {vs : List V} (h : RPs K r H vs ds) {v : V} {d : PD} (q : RP K r H v d) (n : Nat) : RPs K r H (vs.set n v) (ds.set n d) := by
  induction ds generalizing vs n with
  | nil => cases h; exact .nil
  | cons c ds ih =>
    cases h with
    | cons h1 h2 =>
      cases n with
      | zero => exact .cons q h2
      | succ n => exact .cons h1 (ih h2 n)
theorem RPs.rep {ds : List PD} {vs : List V} (h : RPs K r H vs ds) : ∀ k : Nat, RPs K r H (List.replicate k vs).flatten (List.replicate k ds).flatten
  | 0 => .nil
  | k + 1 => by
    rw [List.replicate_succ, List.replicate_succ, List.flatten_cons, List.flatten_cons]
    exact h.append (RPs.rep h k)
theorem RPs.reverse {ds : List PD} {vs : List V} (h : RPs K r H vs ds) : RPs K r H vs.reverse ds.reverse := by
  induction ds generalizing vs with
  | nil => cases h; exact .nil
  | cons d ds ih =>
    cases h with
    | cons h1 h2 =>
      rw [List.reverse_cons, List.reverse_cons]
      exact (ih h2).append (.cons h1 .nil)
/-! data without dicts is the layer's own deep data -/
mutual
theorem rp_dp : ∀ (d : PD) (v : V), d.canLay0 = true → RP K r H v d → Dp K H v d
  | .none, _, _, h => by cases h; exact .non
  | .bool b, _, _, h => by cases h; exact .bl b
  | .int i, _, _, h => by cases h; exact .int i
  | .str x, _, _, h => by cases h; exact .str x
  | .list ds, _, c, h => by
    cases h with
    | lst h1 h2 h3 => exact .lst (.inl (.inl h1)) (rps_dp ds _ (by simpa [PyData.canLay0] using c) h3)
  | .tuple ds, _, c, h => by
    cases h with
    | tup h1 h2 => exact .tup h1.sq (rps_dp ds _ (by simpa [PyData.canLay0] using c) h2)
  | .dict ds, _, c, h => by simp [PyData.canLay0] at c
theorem rps_dp : ∀ (ds : List PD) (vs : List V), PyData.canLayAll0 ds = true → RPs K r H vs ds → DpAll K H vs ds
  | [], _, _, h => by cases h; exact .nil
  | d :: ds, _, c, h => by
    cases h with
    | cons h1 h2 =>
      simp only [PyData.canLayAll0, Bool.and_eq_true] at c
      exact .cons (rp_dp d _ c.1 h1) (rps_dp ds _ c.2 h2)
end
end

/-! ### values, the heap of mutable objects, states -/
inductive D where
  | dat (d : PD)
  | ref (n : Nat)
  | scr (ns : List Int)
inductive Ob where
  | lst (ds : List PD)
  | dct (ds : List (PD × PD))
abbrev Hd := List Ob
abbrev Loc := List (Option D)
def Ob.py : Ob → PD
  | .lst ds => .list ds
  | .dct ds => .dict ds
/-- what a value is now, as data -/
def rd (h : Hd) : D → Option PD
  | .dat d => some d
  | .ref n => (h[n]?).map Ob.py
  | .scr ns => some (.list (ns.map .int))
/-- .. the script left out: an operation that asks the object itself -/
def rdx (h : Hd) : D → Option PD
  | .dat d => some d
  | .ref n => (h[n]?).map Ob.py
  | .scr _ => none
section
variable (K : Frg) (r : Rho) (H : Hp)
/-- a written list -/
def WrL (a : Addr) (xs : List V) : Prop :=
  ∃ (o : Obj) (its : Array Value) (n : Nat), K.lookup a = some o ∧ o.cls = .type "list" ∧ o.dict = none ∧ o.data = .seq its n ∧ its.size ≤ sizeLine ∧ Vals xs its.toList
/-- a list that nobody changes -/
def ScL (a : Addr) (xs : List V) : Prop := (Off r a ∧ Rd H a (.lst xs)) ∨ WrL K a xs
def RO : Ob → Addr → Prop
  | .lst ds, a => ∃ ys, H a = some (.lst ys) ∧ RPs K r H ys ds
  | .dct ds, a => ∃ ys, H a = some (.dK ys) ∧ RPk K r H ys ds
structure RH (h : Hd) : Prop where
  nd : r.at_.Nodup
  len : r.at_.length = h.length
  ob : ∀ (n : Nat) (o : Ob) (a : Addr), h[n]? = some o → r.at_[n]? = some a → RO K r H o a
  hd : ∀ a ∈ r.hid, H a ≠ none ∧ a ∉ r.at_
def RV : V → D → Prop
  | v, .dat d => RP K r H v d
  | v, .ref n => ∃ a, r.at_[n]? = some a ∧ v = .ref a
  | v, .scr ns => ∃ a, v = .ref a ∧ ScL K r H a (ns.map V.int)
def RL (l : Loc) (s : L2.St) : Prop := l.length = s.length ∧ ∀ (i : Nat) d, l[i]? = some (some d) → ∃ v, s[i]? = some (some v) ∧ RV K r H v d
inductive RVs : List V → List D → Prop
  | nil : RVs [] []
  | cons {v : V} {vs : List V} {d : D} {ds : List D} : RV K r H v d → RVs vs ds → RVs (v :: vs) (d :: ds)
/-- v is d now, the object itself; v may be read as d now -/
def Vx (v : V) (d : PD) : Prop := RP K r H v d ∨ (∃ o a, d = Ob.py o ∧ v = .ref a ∧ a ∈ r.at_ ∧ RO K r H o a)
def Vw (v : V) (d : PD) : Prop := Vx K r H v d ∨ (∃ ns a, d = .list (List.map PyData.int ns) ∧ v = .ref a ∧ SqL K H a (ns.map V.int))
end
section
variable {K : Frg} {r r' : Rho} {H H' : Hp} {h : Hd}
theorem ScL.sq {a : Addr} {xs : List V} (q : ScL K r H a xs) : SqL K H a xs := by
  rcases q with ⟨_, h⟩ | h
  · exact .inl h
  · exact .inr h
theorem ScL.mono {a : Addr} {xs : List V} (q : ScL K r H a xs) (e : Stb r H r' H') : ScL K r' H' a xs := by
  rcases q with ⟨h1, h2⟩ | h
  · exact .inl ⟨(e.rd _ _ h2 h1).2, (e.rd _ _ h2 h1).1⟩
  · exact .inr h
theorem RO.some {o : Ob} {a : Addr} (q : RO K r H o a) : ∃ u, H a = Option.some u := by
  cases o with
  | lst ds => obtain ⟨_, e, _⟩ := q; exact ⟨_, e⟩
  | dct ds => obtain ⟨_, e, _⟩ := q; exact ⟨_, e⟩
theorem RH.tr (q : RH K r H h) : Trk r H := fun a ha e => by
  rcases ha with ha | ha
  · obtain ⟨n, hn⟩ := List.mem_iff_getElem?.mp ha
    have hlt : n < h.length := by
      rw [← q.len]
      exact (List.getElem?_eq_some_iff.mp hn).1
    obtain ⟨u, z⟩ := (q.ob n _ a (List.getElem?_eq_getElem hlt) hn).some
    rw [e] at z
    cases z
  · exact (q.hd a ha).1 e
theorem RH.fresh (q : RH K r H h) {p : Addr} (hp : H p = none) : Off r p := q.tr.off hp
theorem RO.keep {o : Ob} {a : Addr} (q : RO K r H o a) (e : Stb r H r' H') (hk : H' a = H a) : RO K r' H' o a := by
  cases o with
  | lst ds => obtain ⟨ys, e1, e2⟩ := q; exact ⟨ys, by rw [hk]; exact e1, RPs.mono e _ _ e2⟩
  | dct ds => obtain ⟨ys, e1, e2⟩ := q; exact ⟨ys, by rw [hk]; exact e1, RPk.mono e _ _ e2⟩
theorem RH.same (q : RH K r H h) (e : Same H H') : RH K r H' h := by
  refine ⟨q.nd, q.len, fun n o a h1 h2 => ?_, fun a ha => ⟨?_, (q.hd a ha).2⟩⟩
  · have z := q.ob n o a h1 h2
    obtain ⟨u, hu⟩ := z.some
    exact z.keep (.same e) (by rw [hu]; exact e _ _ hu)
  · cases w : H a with
    | none => exact absurd w (q.hd a ha).1
    | some o => rw [e a o w]; exact fun z => by cases z
/-- one more object -/
theorem RH.new (q : RH K r H h) {p : Addr} {u : HO} {o : Ob} (hp : H p = none) (new : RO K (r.push p) (upd H p u) o p) : RH K (r.push p) (upd H p u) (h ++ [o]) := by
  refine ⟨?_, by simp [Rho.push, q.len], fun n o' a h1 h2 => ?_, fun a ha => ⟨?_, fun z => ?_⟩⟩
  · show (r.at_ ++ [p]).Nodup
    rw [List.nodup_append]
    refine ⟨q.nd, by simp, fun x hx y hy z => ?_⟩
    have ey : y = p := by simpa using hy
    subst ey
    subst z
    exact (q.fresh hp).1 hx
  · have h2 : (r.at_ ++ [p])[n]? = some a := h2
    by_cases hn : n < h.length
    · rw [List.getElem?_append_left hn] at h1
      rw [List.getElem?_append_left (by rw [q.len]; exact hn)] at h2
      have z := q.ob n o' a h1 h2
      obtain ⟨w, hw⟩ := z.some
      exact z.keep (Ext.newM q.tr hp).stb (by rw [upd_ne (ne_of_none hw hp)])
    · have e1 : n = h.length := by
        have := (List.getElem?_eq_some_iff.mp h1).1
        simp at this
        omega
      subst e1
      rw [List.getElem?_append_right (Nat.le_refl _)] at h1
      rw [← q.len, List.getElem?_append_right (Nat.le_refl _)] at h2
      simp at h1 h2
      subst h1
      subst h2
      exact new
  · have hne : a ≠ p := fun z => (q.hd a ha).1 (by rw [z]; exact hp)
    rw [upd_ne hne]
    exact (q.hd a ha).1
  · rcases List.mem_append.mp z with z | z
    · exact (q.hd a ha).2 z
    · have ey : a = p := by simpa using z
      exact (q.hd a ha).1 (by rw [ey]; exact hp)
/-- an object changes -/
theorem RH.nohid (q : RH K r H h) {p : Addr} (hp : p ∈ r.at_) : p ∉ r.hid := fun z => (q.hd p z).2 hp
theorem RH.set (q : RH K r H h) {p : Addr} {n : Nat} {u : HO} {o : Ob} (hn : r.at_[n]? = some p) (new : RO K r (upd H p u) o p) : RH K r (upd H p u) (h.set n o) := by
  have hp : p ∈ r.at_ := List.mem_of_getElem? hn
  refine ⟨q.nd, by simp [q.len], fun m o' a h1 h2 => ?_, fun a ha => ⟨?_, (q.hd a ha).2⟩⟩
  · by_cases e : m = n
    · subst e
      have hlt : m < h.length := by
        rw [← q.len]
        exact (List.getElem?_eq_some_iff.mp hn).1
      rw [List.getElem?_set_self hlt] at h1
      rw [hn] at h2
      cases h1
      cases h2
      exact new
    · rw [List.getElem?_set_ne (Ne.symm e)] at h1
      have z := q.ob m o' a h1 h2
      refine z.keep (Ext.mut hp (q.nohid hp)).stb (upd_ne fun w => e ?_)
      subst w
      obtain ⟨l1, e1⟩ := List.getElem?_eq_some_iff.mp h2
      obtain ⟨l2, e2⟩ := List.getElem?_eq_some_iff.mp hn
      exact (List.getElem_inj q.nd).mp (e1.trans e2.symm)
  · have hne : a ≠ p := fun z => (q.hd a ha).2 (by rw [z]; exact hp)
    rw [upd_ne hne]
    exact (q.hd a ha).1
/-- the heap cut to its first objects -/
theorem RH.cut (q : RH K r' H h) {t : List Addr} (e1 : r'.at_ = r.at_ ++ t) (e2 : r'.hid = r.hid) : RH K r H (h.take r.at_.length) := by
  have hl := q.len
  rw [e1, List.length_append] at hl
  have nd := q.nd
  rw [e1] at nd
  refine ⟨(List.nodup_append.mp nd).1, by rw [List.length_take]; omega, fun n o a h1 h2 => ?_, fun a ha => ?_⟩
  · have hn := (List.getElem?_eq_some_iff.mp h2).1
    rw [List.getElem?_take_of_lt hn] at h1
    have z := q.ob n o a h1 (by rw [e1, List.getElem?_append_left hn]; exact h2)
    have e : Stb r' H r H := ⟨fun b u x y => ⟨x, fun w => y.1 (by rw [e1]; exact List.mem_append_left _ w), fun w => y.2 (by rw [e2]; exact w)⟩, fun b xs x _ => x⟩
    exact z.keep e rfl
  · obtain ⟨z1, z2⟩ := q.hd a (by rw [e2]; exact ha)
    exact ⟨z1, fun w => z2 (by rw [e1]; exact List.mem_append_left _ w)⟩
/-- something is hidden; it comes back -/
theorem RH.hide (q : RH K r H h) {p : Addr} {o : HO} (hp : H p = none) : RH K (r.hide p) (upd H p o) h := by
  have st : Stb r H (r.hide p) (upd H p o) := ⟨fun a u x y => ⟨rd_upd x (rd_ne x hp), y.1, fun w => (List.mem_cons.mp w).elim (rd_ne x hp) y.2⟩, fun a xs x y => by rw [upd_ne (ne_of_none x hp)]; exact x⟩
  refine ⟨q.nd, q.len, fun n o' a h1 h2 => ?_, fun a ha => ?_⟩
  · have z := q.ob n o' a h1 h2
    obtain ⟨w, hw⟩ := z.some
    exact z.keep st (upd_ne (ne_of_none hw hp))
  · rcases List.mem_cons.mp ha with e | ha
    · subst e
      exact ⟨by rw [upd_same]; exact (fun z => by cases z), fun z => q.tr a (.inl z) hp⟩
    · have hne : a ≠ p := fun z => (q.hd a ha).1 (by rw [z]; exact hp)
      exact ⟨by rw [upd_ne hne]; exact (q.hd a ha).1, (q.hd a ha).2⟩
theorem RV.ext {v : V} {d : D} (q : RV K r H v d) (e : Ext r H r' H') : RV K r' H' v d := by
  cases d with
  | dat d => exact RP.ext q e
  | ref n =>
    obtain ⟨a, h1, h2⟩ := q
    obtain ⟨t, et⟩ := e.pre
    exact ⟨a, by rw [et, List.getElem?_append_left (List.getElem?_eq_some_iff.mp h1).1]; exact h1, h2⟩
  | scr ns =>
    obtain ⟨a, h1, h2⟩ := q
    exact ⟨a, h1, h2.mono e.stb⟩
theorem RVs.ext {v : List V} {d : List D} (q : RVs K r H v d) (e : Ext r H r' H') : RVs K r' H' v d := by
  induction q with
  | nil => exact .nil
  | cons a b ih => exact .cons (a.ext e) ih
theorem RVs.length {v : List V} {d : List D} (q : RVs K r H v d) : v.length = d.length := by
  induction q with
  | nil => rfl
  | cons a b ih => simp [ih]
theorem RL.ext {l : Loc} {s : L2.St} (q : RL K r H l s) (e : Ext r H r' H') : RL K r' H' l s :=
  ⟨q.1, fun i d h => let ⟨v, h1, h2⟩ := q.2 i d h; ⟨v, h1, h2.ext e⟩⟩
theorem RL.set {l : Loc} {s : L2.St} (q : RL K r H l s) {v : V} {d : D} (z : RV K r H v d) (i : Nat) : RL K r H (l.set i (some d)) (s.set i (some v)) := by
  refine ⟨by simp [q.1], fun j c h => ?_⟩
  by_cases e : j = i
  · subst e
    have hlt : j < l.length := by
      have := (List.getElem?_eq_some_iff.mp h).1
      simpa using this
    rw [List.getElem?_set_self hlt] at h
    cases h
    exact ⟨v, by rw [List.getElem?_set_self (by rw [← q.1]; exact hlt)], z⟩
  · rw [List.getElem?_set_ne (Ne.symm e)] at h
    obtain ⟨w, h1, h2⟩ := q.2 j c h
    exact ⟨w, by rw [List.getElem?_set_ne (Ne.symm e)]; exact h1, h2⟩
theorem vx_of {v : V} {d : D} {p : PD} (q : RH K r H h) (z : RV K r H v d) (e : rdx h d = some p) : Vx K r H v p := by
  cases d with
  | dat d =>
    have e' : d = p := Option.some.inj e
    subst e'
    exact .inl z
  | ref n =>
    obtain ⟨a, h1, rfl⟩ := z
    have e' : (h[n]?).map Ob.py = some p := e
    cases ho : h[n]? with
    | none => rw [ho] at e'; cases e'
    | some o =>
      rw [ho] at e'
      have e2 : Ob.py o = p := Option.some.inj e'
      exact .inr ⟨o, a, e2.symm, rfl, List.mem_of_getElem? h1, q.ob n o a ho h1⟩
  | scr ns => cases e
theorem vw_of {v : V} {d : D} {p : PD} (q : RH K r H h) (z : RV K r H v d) (e : rd h d = some p) : Vw K r H v p := by
  cases d with
  | dat d => exact .inl (vx_of q z e)
  | ref n => exact .inl (vx_of q z e)
  | scr ns =>
    have e' : PyData.list (ns.map .int) = p := Option.some.inj e
    obtain ⟨a, h1, h2⟩ := z
    exact .inr ⟨ns, a, e'.symm, h1, h2.sq⟩
/-- a plain value -/
def plainV : PD → Option V
  | .none => some .non
  | .bool b => some (.bl b)
  | .int i => some (.int i)
  | .str x => some (.str x)
  | _ => none
theorem Vx.plain {v w : V} {d : PD} (q : Vx K r H v d) (e : plainV d = some w) : v = w := by
  rcases q with q | ⟨o, a, z, _⟩
  · cases q <;> first | (cases e; rfl) | cases e
  · cases o <;> subst z <;> cases e
theorem Vw.plain {v w : V} {d : PD} (q : Vw K r H v d) (e : plainV d = some w) : v = w := by
  rcases q with q | ⟨ns, a, z, _⟩
  · exact q.plain e
  · subst z; cases e
theorem Vw.int {v : V} {i : Int} (q : Vw K r H v (.int i)) : v = .int i := q.plain rfl
theorem Vw.bool {v : V} {i : Bool} (q : Vw K r H v (.bool i)) : v = .bl i := q.plain rfl
theorem Vw.non {v : V} (q : Vw K r H v .none) : v = .non := q.plain rfl
theorem Vw.str {v : V} {x : Str} (q : Vw K r H v (.str x)) : v = .str x := q.plain rfl
theorem Vx.int {v : V} {i : Int} (q : Vx K r H v (.int i)) : v = .int i := q.plain rfl
theorem Vx.str {v : V} {x : Str} (q : Vx K r H v (.str x)) : v = .str x := q.plain rfl
theorem Vx.list {v : V} {ds : List PD} (q : Vx K r H v (.list ds)) : ∃ a ys, v = .ref a ∧ H a = some (.lst ys) ∧ RPs K r H ys ds := by
  rcases q with q | ⟨o, a, e, rfl, _, z⟩
  · cases q with
    | lst h1 h2 h3 => exact ⟨_, _, rfl, h1, h3⟩
  · cases o with
    | lst es =>
      have e' : ds = es := by cases e; rfl
      subst e'
      obtain ⟨ys, h1, h2⟩ := z
      exact ⟨a, ys, rfl, h1, h2⟩
    | dct es => cases e
theorem rps_ints (ns : List Int) : RPs K r H (ns.map V.int) (ns.map PyData.int) := by
  induction ns with
  | nil => exact .nil
  | cons n ns ih => exact .cons (.int n) ih
theorem Vw.list {v : V} {ds : List PD} (q : Vw K r H v (.list ds)) : ∃ a ys, v = .ref a ∧ SqL K H a ys ∧ RPs K r H ys ds := by
  rcases q with q | ⟨ns, a, e, h1, h2⟩
  · obtain ⟨a, ys, h1, h2, h3⟩ := q.list
    exact ⟨a, ys, h1, .inl (.inl h2), h3⟩
  · have e' : ds = ns.map PyData.int := by cases e; rfl
    subst e'
    exact ⟨a, _, h1, h2, rps_ints ns⟩
theorem Vx.tuple {v : V} {ds : List PD} (q : Vx K r H v (.tuple ds)) : ∃ a ys, v = .ref a ∧ StT K r H a ys ∧ RPs K r H ys ds := by
  rcases q with q | ⟨o, a, e, rfl, _, z⟩
  · cases q with
    | tup h1 h2 => exact ⟨_, _, rfl, h1, h2⟩
  · cases o <;> cases e
theorem Vw.tuple {v : V} {ds : List PD} (q : Vw K r H v (.tuple ds)) : ∃ a ys, v = .ref a ∧ StT K r H a ys ∧ RPs K r H ys ds := by
  rcases q with q | ⟨ns, a, e, _⟩
  · exact q.tuple
  · cases e
/-- an exception, told as data -/
def exB : List (PD × PD) → Bool
  | (.none, _) :: _ => true
  | _ => false
theorem Vx.dict {v : V} {ds : List (PD × PD)} (q : Vx K r H v (.dict ds)) (hx : exB ds = false) : ∃ a ys, v = .ref a ∧ Rd H a (.dK ys) ∧ RPk K r H ys ds := by
  rcases q with q | ⟨o, a, e, rfl, _, z⟩
  · cases q with
    | dct h1 h2 h3 => exact ⟨_, _, rfl, h1, h3⟩
    | xc0 h1 h2 h3 => cases hx
    | xcv h1 h2 h3 => cases hx
  · cases o with
    | dct es =>
      have e' : ds = es := by cases e; rfl
      subst e'
      obtain ⟨ys, h1, h2⟩ := z
      exact ⟨a, ys, rfl, .inl h1, h2⟩
    | lst es => cases e
theorem Vw.dict {v : V} {ds : List (PD × PD)} (q : Vw K r H v (.dict ds)) (hx : exB ds = false) : ∃ a ys, v = .ref a ∧ Rd H a (.dK ys) ∧ RPk K r H ys ds := by
  rcases q with q | ⟨ns, a, e, _⟩
  · exact q.dict hx
  · cases e
theorem Vw.dictR {v : V} {ds : List (PD × PD)} (q : Vw K r H v (.dict ds)) : ∃ a, v = .ref a := by
  rcases q with (q | ⟨o, a, e, rfl, _, z⟩) | ⟨ns, a, e, _⟩
  · cases q <;> exact ⟨_, rfl⟩
  · exact ⟨a, rfl⟩
  · cases e
theorem Vw.dp {v : V} {d : PD} (q : Vw K r H v d) (c : d.canLay0 = true) : Dp K H v d := by
  rcases q with (q | ⟨o, a, rfl, rfl, _, z⟩) | ⟨ns, a, rfl, rfl, z⟩
  · exact rp_dp d v c q
  · cases o with
    | lst ds =>
      obtain ⟨ys, h1, h2⟩ := z
      exact .lst (.inl (.inl h1)) (rps_dp ds _ (by simpa [PyData.canLay0, Ob.py] using c) h2)
    | dct ds => simp [Ob.py, PyData.canLay0] at c
  · exact .lst z (rps_dp (r := ⟨[], []⟩) _ _ (by simpa [PyData.canLay0] using c) (rps_ints ns))
end
end Mi

/-! Mi: some operations of the model that the layer has no rule of. -/
namespace Mi
open PySem PySem.Spec PyProof.Rows L2
section
variable {X : Cx}
/-! ### lists and tuples of unlike lengths -/
def rLen (K : Frg) (b : Bool) : R2 := fun x y H Q => ∃ l m xs ys, x = .ref l ∧ y = .ref m ∧ ((SqL K H l xs ∧ SqL K H m ys ∧ xs.length ≠ ys.length) ∨ (SqT K H l xs ∧ SqT K H m ys ∧ xs.length ≠ ys.length ∧ (xs = [] ∨ ys = []))) ∧ Q (.bl b) H
theorem op_eqLen (hu : X.A.units < cLine) : OpR X (compareOp .Eq) (rLen X.K false) := by
  intro pins s σ H x y v u Q I rx ry h
  obtain ⟨l, m, xs, ys, rfl, rfl, h, q⟩ := h
  cases rx
  cases ry
  rcases h with ⟨h1, h2, hne⟩ | ⟨h1, h2, hne, he⟩
  · obtain ⟨its, r, p, _⟩ := I.list h1
    obtain ⟨its2, r2, p2, _⟩ := I.list h2
    refine SeqAt.eq_list_lengthsAt (items := its.toArray) (items2 := its2.toArray) ?_ ?_ ?_ hu ⟨.bl false, H, I, rfl, q⟩
    · obtain ⟨o, n, e1, e2, e3, e4⟩ := p
      exact ⟨o, e1, e2, n, e4⟩
    · obtain ⟨o, n, e1, e2, e3, e4⟩ := p2
      exact ⟨o, e1, e2, n, e4⟩
    · rw [bne_iff_ne, List.size_toArray, List.size_toArray, ← r.length, ← r2.length]
      exact hne
  · obtain ⟨its, r, p, _⟩ := I.tuple h1
    obtain ⟨its2, r2, p2, _⟩ := I.tuple h2
    refine SeqAt.eq_tupleAt (items := its.toArray) (items2 := its2.toArray) (e := fun _ => true) p p2 hu (fun j h1 h2 => ?_) ?_
    · exfalso
      rw [List.size_toArray] at h1 h2
      rcases he with he | he
      · rw [← r.length, he] at h1; exact absurd h1 (Nat.not_lt_zero _)
      · rw [← r2.length, he] at h2; exact absurd h2 (Nat.not_lt_zero _)
    · have e : (its.toArray.size == its2.toArray.size) = false := by
        rw [beq_eq_false_iff_ne, List.size_toArray, List.size_toArray, ← r.length, ← r2.length]
        exact hne
      rw [e, Bool.and_false]
      exact ⟨.bl false, H, I, rfl, q⟩
theorem op_neLen (hu : X.A.units < cLine) : OpR X (compareOp .NotEq) (rLen X.K true) := by
  intro pins s σ H x y v u Q I rx ry h
  obtain ⟨l, m, xs, ys, rfl, rfl, h, q⟩ := h
  cases rx
  cases ry
  rcases h with ⟨h1, h2, hne⟩ | ⟨h1, h2, hne, he⟩
  · obtain ⟨its, r, p, _⟩ := I.list h1
    obtain ⟨its2, r2, p2, _⟩ := I.list h2
    refine SeqAt.RcNeAt.lists_lengths (items := its.toArray) (items2 := its2.toArray) ?_ ?_ ?_ hu X.prog X.w X.xe _ ⟨.bl true, H, I, rfl, q⟩
    · obtain ⟨o, n, e1, e2, e3, e4⟩ := p
      exact ⟨o, e1, e2, n, e4⟩
    · obtain ⟨o, n, e1, e2, e3, e4⟩ := p2
      exact ⟨o, e1, e2, n, e4⟩
    · rw [bne_iff_ne, List.size_toArray, List.size_toArray, ← r.length, ← r2.length]
      exact hne
  · obtain ⟨its, r, p, _⟩ := I.tuple h1
    obtain ⟨its2, r2, p2, _⟩ := I.tuple h2
    refine SeqAt.RcNeAt.tuples (items := its.toArray) (items2 := its2.toArray) (e := fun _ => true) p p2 hu (fun j h1 h2 => ?_) X.prog X.w X.xe _ ?_
    · exfalso
      rw [List.size_toArray] at h1 h2
      rcases he with he | he
      · rw [← r.length, he] at h1; exact absurd h1 (Nat.not_lt_zero _)
      · rw [← r2.length, he] at h2; exact absurd h2 (Nat.not_lt_zero _)
    · have e : (its.toArray.size == its2.toArray.size) = false := by
        rw [beq_eq_false_iff_ne, List.size_toArray, List.size_toArray, ← r.length, ← r2.length]
        exact hne
      rw [e, Bool.and_false]
      exact ⟨.bl true, H, I, rfl, q⟩
/-! ### tuple * 1, tuple * 0 -/
theorem tuple_mul1 (l : Addr) (items : Array Value) (n : Nat) (dd : Option Addr) (sl : Array (Option Value)) (u : Tok) :
    Meets (Builtin.«tuple.__mul__» ⟨[.ref l, .int 1 u], []⟩) (fun _ R s => s.heap.get? l = some { cls := .type "tuple", dict := dd, data := .seq items n, slots := sl } ∧ R (.ok (.ret (.ref l))) s) :=
  .of_wp fun prog w A R s h => by
    obtain ⟨hp, g, d, tk, os⟩ := s
    obtain ⟨hl, h⟩ := h
    have f1 := AutoSeq1.idx_int
    have c1 : (items.isEmpty || ((1 : Int) == 1)) = true := by simp
    wp_walk using wpAny_loadPart' hl
    repeat (first
      | (refine wpAny_ite_true (decide_eq_true c1) ?_; wp_walk using wpAny_loadPart' hl)
      | (refine wpAny_ite_true c1 ?_; wp_walk using wpAny_loadPart' hl))
    exact ⟨_, rfl, h⟩
theorem tuple_mul0 (l : Addr) (items : Array Value) (n : Nat) (dd : Option Addr) (sl : Array (Option Value)) (u : Tok) (hi : items.isEmpty = false) :
    Meets (Builtin.«tuple.__mul__» ⟨[.ref l, .int 0 u], []⟩) (fun _ R s => s.heap.get? l = some { cls := .type "tuple", dict := dd, data := .seq items n, slots := sl } ∧
      R (.ok (.ret (Value.ref s.heap.objs.size))) { s with heap := s.heap.push { cls := Value.type "tuple", data := Data.seq #[] }, toks := s.toks }) :=
  .of_wp fun prog w A R s h => by
    obtain ⟨hp, g, d, tk, os⟩ := s
    obtain ⟨hl, h⟩ := h
    have f1 := AutoSeq1.idx_int
    have c1 : (items.isEmpty || ((0 : Int) == 1)) = false := by rw [hi]; rfl
    have c2 : (decide ((0 : Int) ≤ 0) || items.isEmpty) = true := rfl
    wp_walk using wpAny_loadPart' hl
    repeat (first
      | (refine wpAny_ite_false (decide_eq_false (by rw [c1]; exact Bool.false_ne_true)) ?_; wp_walk using wpAny_loadPart' hl)
      | (refine wpAny_ite_true (decide_eq_true c2) ?_; wp_walk using wpAny_loadPart' hl))
    exact ⟨_, rfl, h⟩
def rRep1 (K : Frg) : R2 := fun x y H Q => ∃ l xs, x = .ref l ∧ y = .int 1 ∧ SqT K H l xs ∧ Q x H
theorem op_rep1 : OpR X (binaryOp .Mult) (rRep1 X.K) := by
  intro pins s σ H x y v u Q I rx ry h
  obtain ⟨l, xs, rfl, rfl, hT, q⟩ := h
  cases rx
  obtain ⟨t, rfl⟩ := ry
  obtain ⟨its, r, ⟨⟨cls, dd, data, sl⟩, ho, hc, n, hd⟩, hs⟩ := I.tuple hT
  simp only at hc hd
  subst hc hd
  exact wpAny_binaryOp_repeat_ref (T := "tuple") (U := "int") (by decide) ⟨_, ho, rfl⟩ (fun s' => typeIs_int s' 1 t) noFill_tuple_mul F.fills_int_mul F.slot_int_rmul repeat_tuple F.slot_int_index.lookup
    (call_meets F.slot_int_rmul (typeIs_int s 1 t) F.entry_int_rmul (F.args_int_rmul_2 _ _) (int_rmul_tuple 1 t l its.toArray n dd sl)
      ⟨ho, rfl, ⟨_, ho, rfl⟩, call_meets F.slot_tuple_mul ⟨_, ho, rfl⟩ F.entry_tuple_mul (F.args_tuple_mul_2 _ _) (tuple_mul1 l its.toArray n dd sl t) ⟨ho, ⟨.ref l, H, I, rfl, q⟩⟩⟩)
def rRep0 (K : Frg) : R2 := fun x y H Q => ∃ l xs, x = .ref l ∧ y = .int 0 ∧ SqT K H l xs ∧ xs ≠ [] ∧ ∀ p, H p = none → Q (.ref p) (upd H p (.tup []))
theorem op_rep0 : OpR X (binaryOp .Mult) (rRep0 X.K) := by
  intro pins s σ H x y v u Q I rx ry h
  obtain ⟨l, xs, rfl, rfl, hT, hne, q⟩ := h
  cases rx
  obtain ⟨t, rfl⟩ := ry
  obtain ⟨its, r, ⟨⟨cls, dd, data, sl⟩, ho, hc, n, hd⟩, hs⟩ := I.tuple hT
  simp only at hc hd
  subst hc hd
  have hi : its.toArray.isEmpty = false := by
    cases its with
    | nil => exact absurd (List.eq_nil_of_length_eq_zero (by rw [r.length]; rfl)) hne
    | cons a b => rfl
  refine wpAny_binaryOp_repeat_ref (T := "tuple") (U := "int") (by decide) ⟨_, ho, rfl⟩ (fun s' => typeIs_int s' 0 t) noFill_tuple_mul F.fills_int_mul F.slot_int_rmul repeat_tuple F.slot_int_index.lookup
    (call_meets F.slot_int_rmul (typeIs_int s 0 t) F.entry_int_rmul (F.args_int_rmul_2 _ _) (int_rmul_tuple 0 t l its.toArray n dd sl)
      ⟨ho, rfl, ⟨_, ho, rfl⟩, call_meets F.slot_tuple_mul ⟨_, ho, rfl⟩ F.entry_tuple_mul (F.args_tuple_mul_2 _ _) (tuple_mul0 l its.toArray n dd sl t hi) ⟨ho, ?_⟩⟩)
  refine ⟨.ref s.heap.objs.size, _, I.laid (t' := s.toks) (o := .tup []) (fun b ob q => Heap.get?_push_of_some _ q) (Nat.le_refl _) ?_, rfl, q _ (I.hok.fresh (Nat.le_refl _))⟩
  exact ⟨Nat.zero_le _, [], .nil, IsTup.new _ _⟩
/-! ### l.extend(tuple) -/
theorem extend_tupW (l : Addr) (items : Array Value) (n : Nat) (b : Addr) (items2 : Array Value) (n2 : Nat) (dd2 : Option Addr) (sl2 : Array (Option Value)) (hs0 : ¬(!items.isEmpty && Builtin.List.listTooLong (items.size + items2.size)) = true) (hs1 : items.size ≤ sizeLine) (hs2 : items.size + items2.size ≤ sizeLine + 1) :
    Meets (Builtin.«list.extend» ⟨[.ref l, .ref b], []⟩) (fun _ R s => s.heap.get? l = some { cls := .type "list", dict := none, data := .seq items n, slots := #[] } ∧ s.heap.get? b = some { cls := .type "tuple", dict := dd2, data := .seq items2 n2, slots := sl2 } ∧ R (.ok (.ret Value.none)) { s with heap := s.heap.update l (Obj.mapSeq fun x => x ++ items2), toks := s.toks }) :=
  .of_wp fun prog w A R s h => by
    obtain ⟨hp, g, d, tk, os⟩ := s
    obtain ⟨hl, hb, h⟩ := h
    have f1 := AutoSeq1.idx_int
    have f2 := AutoSeq1.sub_tuple_tuple
    have f3 := AutoSeq1.sub_list_list
    have f4 := AutoSeq1.sub_tuple_list
    have f5 := AutoSeq1.sub_list_tuple
    have hz' : (items ++ items2).size ≤ sizeLine + 1 := by rw [Array.size_append]; exact hs2
    wp_walk using (wpAny_updateSeq hl rfl (hz := hs1) (_hz' := hz')), wpAny_loadPart' hl, wpAny_loadPart' hb
    exact ⟨_, rfl, h⟩
def rExtendT (K : Frg) : V → List V → Hp → VK → Prop := fun x vs H Q => ∃ l b xs zs, x = .ref l ∧ vs = [.ref b] ∧ H l = some (.lst xs) ∧ SqT K H b zs ∧ xs.length + zs.length ≤ sizeLine ∧ Q .non (upd H l (.lst (xs ++ zs)))
theorem mt_extendT : MtM X "list.extend" (rExtendT X.K) := by
  intro pins s σ H x vs v us Q I rx rv h
  obtain ⟨l, b, xs, zs, rfl, rfl, hH, hB, hz, q⟩ := h
  cases rx
  obtain ⟨u, rfl, ru⟩ := rv.one
  cases ru
  obtain ⟨z, its, n, r, hl, e⟩ := I.lstM hH
  obtain ⟨its2, r2, ⟨⟨cls, dd, data, sl⟩, ho, hc, n2, hd⟩, hs⟩ := I.tuple hB
  simp only at hc hd
  subst hc hd
  have hl2 := r2.length
  have hsz : its.toArray.size + its2.toArray.size ≤ sizeLine := by rw [List.size_toArray, List.size_toArray]; omega
  have hlong : ¬ (!its.toArray.isEmpty && Builtin.List.listTooLong (its.toArray.size + its2.toArray.size)) = true := by
    rw [notLongL hsz, Bool.and_false]
    exact Bool.false_ne_true
  refine call_meets F.slot_list_extend ⟨_, e, rfl⟩ F.entry_list_extend (F.args_list_extend_2 _ _)
    (extend_tupW l its.toArray n b its2.toArray n2 dd sl hlong (by rw [List.size_toArray]; omega) (by omega)) ⟨e, ho, ?_⟩
  refine ⟨.non, _, I.lset (its' := its ++ its2) hH e (by simp) (r.append r2) ?_, rfl, q⟩
  rw [List.length_append]
  omega
end
end Mi

/-! Mi: the promise of a def where no text of an object is being made (nothing guards). -/
namespace Mi
open PySem PySem.Spec PyProof.Rows L2
/-- the layer's promise, under no guard -/
structure FnG (P : Program) (w : World) (K : Frg) (mg : Str → Option Value) (base : Heap) (k : Nat) (f : Addr) (fd : FuncData) (ps : List Str) (sp : Sp) : Prop where
  len : ∀ vs H Q E, sp vs H Q E → vs.length = ps.length
  run : ∀ {A : Around} {outer : List Env} {s : Shared} {H : Hp} {args : Args} {us : List Value} {vs : List V} {Q : VK} {E : XK}, A.guards = some [] → Room k A → Env0 P w K mg base A outer s H → BindsTo s fd args (ps.zip us) → Vals vs us → sp vs H Q E → codeAny (model P w) A (.call (.ref f) args) (CR (L2.CX P w) outer P w H s Q E) s
section
variable {X : Cx} {W : WX} {k : Nat} {f : Addr} {fd : FuncData} {ps : List Str} {sp : Sp} {x : Str} {p pos : Pos} {e : Expr} {es : List Expr} {t : TA}
theorem run_fnG {pins : List (Addr × Obj)} {σ : L2.St} {H : Hp} {s : Shared} {Q : VK} {us : List Value} {vs : List V} (F : FnG X.prog X.w X.K X.mg X.base k f fd ps sp) (hq : X.A.guards = some []) (hr : Room k X.A) (hb : Binds X.K fd ps []) (tk : Takes X W)
    (I : Inv X pins σ H s) (rv : Vals vs us) (h : sp vs H Q (WE W σ)) : wpAny (model X.prog X.w) X.A (call (.ref f) us) (EP X pins σ Q) X.xe s := by
  have hl : us.length = ps.length := rv.length ▸ F.len _ _ _ _ h
  have hbb : BindsTo s fd ⟨us, []⟩ (ps.zip us) := by
    have z := hb s us I.kIn (by simpa using hl)
    simpa using z
  refine wpAny_call (codeAny_mono (F.run (us := us) hq hr I.env0 hbb rv h) ?_)
  intro r s' z
  match r, z with
  | .error e, z => exact passAt tk σ pins H s e s' I z
  | .ok (.ret u), z => exact I.after z
theorem pe_callG (F : FnG X.prog X.w X.K X.mg X.base k f fd ps sp) (hq : X.A.guards = some []) (hr : Room k X.A) (hg : Gl X x) (hm : X.mg x = some (.ref f)) (hk : PySem.W.keepIn X.K (.ref f) = true) (hb : Binds X.K fd ps []) (tk : Takes X W)
    (ha : PA X (e :: es) t) (hdb : (x == ("__debug__" : Str)) = false) (he : starEach (e :: es) X.env = (false, eval e X.env) :: starEach es X.env) (hpl : (backTo pos (starEach es X.env)).any (·.1) = false) :
    PE X (.Call (.Name x p) (e :: es) [] pos) (tCallS sp (WE W) t) := by
  constructor
  intro pins s σ H Q I h
  apply wpAny_Call_Name_kw
  apply ld_glob I hg hm (hd := hdb)
  refine PySem.W.callWith_K (h₀ := X.base) I.ok.mod.kin hk (thn (ha.run pos pins s σ H _ I h) ?_) he hpl
  rintro us s1 ⟨vs, H1, J, rv, q⟩
  exact ⟨J.kIn, run_fnG F hq hr hb tk J rv q⟩
end
section
variable {P : Program} {w : World} {K : Frg} {mg : Str → Option Value} {base : Heap}
/-- a def by its body -/
theorem fnG_of {x qual : Str} {st : Stmt} {f : Addr} {fd : FuncData} {N ps : List Str} {k : Nat} {sp : Sp} (F : L2.Fun K x qual st f fd) (S : FnScope N ps (defScope st)) (len : ∀ vs H Q E, sp vs H Q E → vs.length = ps.length)
    (hbody : ∀ (cdv : Value) (A : Around) (outer : List Env) (s : Shared) (H : Hp) (vs : List V) (Q : VK) (E : XK), A.guards = some [] → Room k (A.deeper (envOfC qual (defScope st) s.heap.objs.size f cdv)) → sp vs H Q E →
      ∃ t, PSs (cxOf (L2.CX P w) P w K mg base N qual (defScope st) f cdv A outer s H E) (defBody st) t ∧ t { nx := fun _ H' => Q .non H', rt := Q } (L2.start N vs) H) : FnG P w K mg base (k + 1) f fd ps sp := by
  obtain ⟨oc, od, kV, doc, pm, an, cdv, ct, osl, rfl, lk, hcd⟩ := F.ex
  refine ⟨len, fun {A outer s H args us vs Q E} hq hr e0 hb rv h => ?_⟩
  refine StX.run_bnd (G := fun vs' H' => vs' = vs ∧ H' = H) lk hcd S hr e0 (fun A' Ex Q' z => ?_) ?_
  · exact hb _ _ _ _ (z s H vs us e0 .refl rfl (fun _ _ z => z) rv (len _ _ _ _ h) ⟨rfl, rfl⟩)
  · rintro s2 H2 vs' ⟨rfl, rfl⟩ hr2
    exact hbody cdv A outer s2 H2 vs' Q E hq hr2 h
end
/-! ### the end -/
section
variable {P : Program} {w : World} {K : Frg} {mg mb : Str → Option Value} {k : Nat} {fa a : Addr} {fd : FuncData} {x : Str} {sp : Sp} {s : Shared} {vs : List Value} {ns : List Int}
/-- from a heap in which the script alone may be tracked -/
theorem end_core (KX : K.In s.heap) (hns : s.heap.Ns mainGlobals mg) (hb : s.heap.Ns builtinsNs mb) (hbb : ∀ x : Str, x ≠ "__name__" → mb x = bootBuiltins x) (hlim : s.heap.NoLimit) (hg : s.gens = #[])
    (ha : s.heap.get? a = some { cls := .type "list", data := .seq vs.toArray }) (hr : Room k callerA)
    (F : ∀ base : Heap, K.In base → base.Ns mainGlobals mg → FnG P w K mg base k fa fd [x] sp) (hbind : ∀ (s : Shared) (u : Value), BindsTo s fd ⟨[u], []⟩ [(x, u)]) {H : Hp} (hO : Only H) (hok : HOk P w H s.heap) (hA : ∀ b, H b ≠ none → b = a) (hK : H a ≠ none → K.lookup a = none)
    (h : sp [.ref a] H (fun v _ => v = .bl true) fun _ _ _ => False) :
    codeAny (model P w) callerA (.call (.ref fa) ⟨[.ref a], []⟩) (fun r s' => r = .ok (.ret (.bool true)) ∧ OldK s.heap s'.heap ∧ s'.os = s.os ∧ AllBare s'.gens) s := by
  have dicts : ∀ (b : Addr) (o : Obj) (es : Array DictEntry) (ep : Nat), s.heap.get? b = some o → o.data = .dict es ep → H b = none := by
    intro b o es ep e d
    refine Classical.byContradiction fun z => ?_
    rw [hA b z, ha] at e
    cases e
    cases d
  have nsK : ∀ (b : Addr) (m : Str → Option Value), s.heap.Ns b m → (hidT s.heap H).Ns b m := fun b m ⟨o, es, ep, e, d, z⟩ => ⟨o, es, ep, hidT_get e (dicts b o es ep e d), d, z⟩
  have inK : K.In (hidT s.heap H) := by
    intro b o e
    refine hidT_get (KX b o e) (Classical.byContradiction fun z => ?_)
    rw [hA b z, hK (by rw [← hA b z]; exact z)] at e
    cases e
  obtain ⟨mc, l1, l2⟩ := hlim
  have M : Mod K mg (hidT s.heap H) := ⟨inK, nsK _ _ hns, ⟨mb, nsK _ _ hb, hbb⟩, mc, nsK _ _ l1, l2⟩
  have e0 : Env0 P w K mg (hidT s.heap H) callerA [] s H := { frames := rfl, mod := M, bs := fun b o e => of_hidT e, bsz := Nat.le_of_eq (hidT_size _ _), funs := trivial, frf := fun b z => (List.not_mem_nil z).elim, hok := hok, bare := .of_eq hg }
  refine codeAny_mono ((F _ inK (nsK _ _ hns)).run (us := [.ref a]) (vs := [.ref a]) rfl hr e0 (hbind s (.ref a)) (.cons rfl .nil) h) ?_
  intro r s' z
  match r, z with
  | .error e, z =>
    obtain ⟨_, _, _, _, _, _, _, _, _, _, _, _, q⟩ := z
    exact q.elim
  | .ok (.ret u), z =>
    obtain ⟨v, H', os, bare, un, hok', rv, q⟩ := z
    have q : v = .bl true := q
    subst q
    have rv : u = .bool true := rv
    subst rv
    refine ⟨rfl, OldK.of_keep fun b o e => ?_, os, bare⟩
    cases hb' : H b with
    | none => exact un.keep b o e hb' (fun z => List.not_mem_nil z) (fun z => List.not_mem_nil z)
    | some u =>
      rcases hO b with z | ⟨ob, xs, z⟩
      · rw [hb'] at z; cases z
      · have e1 := (hok b _ z).1
        have e2 := (hok' b _ (un.frzs b ob _ z)).1
        rw [e] at e1
        cases e1
        exact e2
theorem end_call (KX : K.In s.heap) (hns : s.heap.Ns mainGlobals mg) (hb : s.heap.Ns builtinsNs mb) (hbb : ∀ x : Str, x ≠ "__name__" → mb x = bootBuiltins x) (hlim : s.heap.NoLimit) (hg : s.gens = #[])
    (ha : s.heap.get? a = some { cls := .type "list", data := .seq vs.toArray }) (hi : IntsAre vs ns) (hl : ns.length ≤ sizeLine) (hr : Room k callerA)
    (F : ∀ base : Heap, K.In base → base.Ns mainGlobals mg → FnG P w K mg base k fa fd [x] sp) (hbind : ∀ (s : Shared) (u : Value), BindsTo s fd ⟨[u], []⟩ [(x, u)])
    (hsp : ∀ H : Hp, Only H → SqL K H a (ns.map V.int) → sp [.ref a] H (fun v _ => v = .bl true) fun _ _ _ => False) :
    codeAny (model P w) callerA (.call (.ref fa) ⟨[.ref a], []⟩) (fun r s' => r = .ok (.ret (.bool true)) ∧ OldK s.heap s'.heap ∧ s'.os = s.os ∧ AllBare s'.gens) s := by
  have rv := vals_ints hi
  cases hk : K.lookup a with
  | some o =>
    have e := KX a o hk
    rw [ha] at e
    cases e
    have O : Only (fun _ => none) := fun _ => .inl rfl
    refine end_core KX hns hb hbb hlim hg ha hr F hbind O (fun b u z => ?_) (fun b z => absurd rfl z) (fun z => absurd rfl z) (hsp _ O (.inr ⟨_, vs.toArray, _, hk, rfl, rfl, rfl, ?_, by simpa using rv⟩))
    · cases z
    · rw [List.size_toArray, hi.length]
      exact hl
  | none =>
    have O : Only (fun b => if b = a then some (.frz { cls := .type "list", data := .seq vs.toArray } (.lst (ns.map V.int))) else none) := by
      intro b
      by_cases hb : b = a
      · exact .inr ⟨_, _, if_pos hb⟩
      · exact .inl (if_neg hb)
    refine end_core KX hns hb hbb hlim hg ha hr F hbind O (fun b u z => ?_) (fun b z => ?_) (fun _ => hk) (hsp _ O (.inl (.inr ⟨_, if_pos rfl⟩)))
    · have z : (if b = a then some _ else none) = some u := z
      split at z
      · rename_i hb
        cases z
        subst hb
        exact ⟨ha, by rw [List.length_map]; exact hl, vs, _, rv, ha⟩
      · cases z
    · refine Classical.byContradiction fun hb => z (if_neg hb)
end
/-- the goal behind the head, from the law's promise -/
theorem walkG_of {l : PySem.W.OpenLaw} {n k : Nat} {q : Program} {loose : List Str} {XP : (Str → Option Value) → Heap → Prop} {YP : World → Heap → Prop} {d : DefRec} {K : Params → Frg} {sp : World → Sp} {x : Str}
    (hn : l.most = some n) (hn2 : n ≤ sizeLine) (hdf : d.params.defaults = []) (hr : Room k callerA) (hY : ∀ (w : World) (h : Heap), YP w h → (K w.params).In h)
    (F : ∀ (w : World) (mg : Str → Option Value) (fa : Addr) (h : Heap), (K w.params).In h → h.Ns mainGlobals mg → mg d.name = some (.ref fa) →
      ∃ fd : FuncData, (∀ (s : Shared) (u : Value), BindsTo s fd ⟨[u], []⟩ [(x, u)]) ∧ ∀ base : Heap, (K w.params).In base → base.Ns mainGlobals mg → FnG l.prog w (K w.params) mg base k fa fd [x] (sp w))
    (hsp : ∀ (w : World) (H : Hp) (a : Addr) (ns : List Int), ns.length ≤ n → Only H → SqL (K w.params) H a (ns.map V.int) → sp w [.ref a] H (fun v _ => v = .bl true) fun _ _ _ => False) :
    PySem.W.WalkO q loose XP YP l.row.toRowW d [] (fun f vs => PySem.call f vs) := by
  apply Att.attach_call hn hdf
  intro w s₀ s₁ mg mb fa o pm cd doc a vs ns G Y ho hd hcd hmg hobj hints hlen hg
  obtain ⟨fd, hb, hF⟩ := F w mg fa _ (hY w _ Y) G.T.g hmg
  exact end_call (hY w _ Y) G.T.g G.T.b G.T.builtins G.T.nolimit hg hobj hints (Nat.le_trans hlen hn2) hr hF hb fun H hO hS => hsp w H a ns hlen hO hS
/-- .. the promise hangs on the written part -/
theorem walkG_ofK {l : PySem.W.OpenLaw} {n k : Nat} {q : Program} {loose : List Str} {XP : (Str → Option Value) → Heap → Prop} {YP : World → Heap → Prop} {d : DefRec} {K : Params → Frg} {sp : Frg → Sp} {x : Str}
    (hn : l.most = some n) (hn2 : n ≤ sizeLine) (hdf : d.params.defaults = []) (hr : Room k callerA) (hY : ∀ (w : World) (h : Heap), YP w h → (K w.params).In h)
    (F : ∀ (w : World) (mg : Str → Option Value) (fa : Addr) (h : Heap), (K w.params).In h → h.Ns mainGlobals mg → mg d.name = some (.ref fa) →
      ∃ fd : FuncData, (∀ (s : Shared) (u : Value), BindsTo s fd ⟨[u], []⟩ [(x, u)]) ∧ ∀ base : Heap, (K w.params).In base → base.Ns mainGlobals mg → FnG l.prog w (K w.params) mg base k fa fd [x] (sp (K w.params)))
    (hsp : ∀ (K : Frg) (H : Hp) (a : Addr) (ns : List Int), ns.length ≤ n → Only H → SqL K H a (ns.map V.int) → sp K [.ref a] H (fun v _ => v = .bl true) fun _ _ _ => False) :
    PySem.W.WalkO q loose XP YP l.row.toRowW d [] (fun f vs => PySem.call f vs) :=
  walkG_of (K := K) (sp := fun w => sp (K w.params)) hn hn2 hdf hr hY F fun w H a ns h1 h2 h3 => hsp (K w.params) H a ns h1 h2 h3
end Mi

/-! Mi: own exception classes over a built-in one whose __new__ may be that of a class above it. -/
namespace Mi
open PySem PySem.Spec L2
/-- the built-in class B: its __new__ is that of U, its __init__ its own; bm: B and what is above -/
structure XBs (B U newId initId : String) (bm : List Value) : Prop where
  up : ∃ i m, ExcBaseFacts U newId i m
  hU : bm.contains (.type U) = true
  hB : bm.contains (.type B) = true
  hA : bm.contains (.type "AttributeError") = false
  hN : bm.contains (.type "NameError") = false
  plain : ∃ S, Slot S "__init__" initId
  entry : entryFor table initId = some Builtin.«BaseException.__init__»
  kind : builtinKind initId = some .slot
  split : splitId initId = some (B, "__init__")
  row : Manifest.signature? initId = some ⟨.positional, "*", B, .self, [⟨"args", .varPos, false⟩]⟩
  star : (B != "*") = true
theorem XBs.of {B newId initId : String} {bm : List Value} (F : ExcBaseFacts B newId initId bm) : XBs B B newId initId bm :=
  ⟨⟨initId, bm, F⟩, F.hasB, F.hasB, F.noAttr, F.noName, ⟨B, F.init⟩, F.initEntry, F.initKind, F.initSplit, F.initRow, F.noStar⟩
theorem xb_KeyError : XBs "KeyError" "LookupError" "LookupError.__new__" "KeyError.__init__" [.type "KeyError", .type "LookupError", .type "Exception", .type "BaseException", .type "object"] :=
  ⟨⟨_, _, PySem.F.excBase_LookupError⟩, by decide +kernel, by decide +kernel, by decide +kernel, by decide +kernel, ⟨_, PyProof.Rows.excClass_KeyError.init⟩, PyProof.Rows.excClass_KeyError.initEntry, PyProof.Rows.excClass_KeyError.initKind, PyProof.Rows.excClass_KeyError.initSplit, PyProof.Rows.excClass_KeyError.initSig, PyProof.Rows.excClass_KeyError.notStar⟩
section
variable {prog : Program} {w : World} {A : Around} {E : Value → Shared → Prop} {R : Result → Shared → Prop} {hp : Heap} {gs : Array GenState} {dr : Drawn} {tk : Nat} {os : OsState}
variable {nm q : Str} {C N : Addr} {bs bm : List Value} {hd : Bool} {sn : List Str} {sub : List Value} {ab : Bool} {col : Option Bool} {dd : Option Addr} {k0 k1 k2 k3 k5 : Option Value} {B U newId initId : String} {rest : List Value}
theorem XBs.checkNew (T : XBs B U newId initId bm) {Q : Unit → Shared → Prop} (hC : hp.get? C = some (excClassObj nm q C N bs bm hd sn sub ab col dd k0 k1 k2 k3 k5 newId)) (hq : Q () ⟨hp, gs, dr, tk, os⟩) :
    wpAny (model prog w) A (checkBuiltinCall newId ⟨.ref C :: rest, []⟩) Q E ⟨hp, gs, dr, tk, os⟩ := by
  obtain ⟨i, m, F⟩ := T.up
  have c1 : (Value.ref C :: bm).contains (.type U) = true := by rw [List.contains_cons, T.hU, Bool.or_true]
  have st := F.noStar
  simp only [checkBuiltinCall, F.newKind, F.newSplit, F.newRow]
  repeat (first
    | refine wpAny_loadPart_at hC ?_
    | (refine wpAny_isSubtype_exc hC ?_; rw [c1])
    | refine wpAny_staticBase_exc hC ?_
    | refine wpAny_madeBy_exc hC ?_
    | simp only [bne_self_eq_false, Bool.false_eq_true, if_false]
    | wp_step)
  exact hq
theorem XBs.new (T : XBs B U newId initId bm) (hC : hp.get? C = some (excClassObj nm q C N bs bm hd sn sub ab col dd k0 k1 k2 k3 k5 newId)) (hz : rest.length ≤ sizeLine)
    (hq : R (.ok (.ret (.ref (hp.objs.size + 1)))) ⟨(hp.push (PySem.W.kdv_tup rest)).push (PySem.HandSPX.excO C hp.objs.size), gs, dr, tk, os⟩) :
    codeAny (model prog w) A (.builtin newId ⟨.ref C :: rest, []⟩) R ⟨hp, gs, dr, tk, os⟩ := by
  obtain ⟨i, m, F⟩ := T.up
  have en := F.ends
  have c1 : (Value.ref C :: bm).contains (.type U) = true := by rw [List.contains_cons, T.hU, Bool.or_true]
  have c2 : (Value.ref C :: bm).contains (.type "AttributeError") = false := by rw [List.contains_cons, T.hA]; rfl
  have c3 : (Value.ref C :: bm).contains (.type "NameError") = false := by rw [List.contains_cons, T.hN]; rfl
  refine codeAny_builtinAt F.entry ?_
  unfold Builtin.«BaseException.__new__»
  refine wpAt_bind ?_
  show wpAt _ _ _ (stack >>= _) _ _ _
  refine wpAt_bind (wpAt_stack fun fr below => wpAt_of_wpAny ?_)
  wp_walk
  refine wpAt_of_wpAny ?_
  rw [F.owner]
  repeat (first
    | with_reducible refine wpAny_madeHere_exc F.canon hC ?_
    | with_reducible refine wpAny_loadPart_at hC ?_
    | (with_reducible refine wpAny_isSubtype_exc hC ?_; first | rw [c1] | rw [c2] | rw [c3])
    | wp_step)
  show R _ _
  rw [Heap.size_push]
  exact hq
/-- what comes back from the own __init__ -/
def BackI (p : Addr) (Q : PySem.Fin → Shared → Prop) (E : Value → Shared → Prop) : Result → Shared → Prop := fun r s' => match r with
  | .ok (.ret v) => v = .none ∧ Q (.done (.ret (.ref p))) s'
  | .ok _ => False
  | .error x => E x s'
theorem XBs.tcall (T : XBs B U newId initId bm) {fI : Addr} {Q : PySem.Fin → Shared → Prop} (hC : hp.get? C = some (excClassObj nm q C N bs bm hd sn sub ab col dd k0 k1 k2 k3 k5 newId)) (hi : PySem.W.Looks (model prog w) hp (typeLookup (.ref C) "__init__") (some (.ref fI)))
    (hb : ∀ self, PySem.W.Looks (model prog w) hp (bindSpecial (.ref fI) self) (.ref fI, [self])) (hz : rest.length ≤ sizeLine)
    (hq : codeAny (model prog w) A (.call (.ref fI) ⟨.ref (hp.objs.size + 1) :: rest, []⟩) (BackI (hp.objs.size + 1) Q E) ⟨(hp.push (PySem.W.kdv_tup rest)).push (PySem.HandSPX.excO C hp.objs.size), gs, dr, tk, os⟩) :
    wpAny (model prog w) A (Builtin.«type.__call__» ⟨.ref C :: rest, []⟩) Q E ⟨hp, gs, dr, tk, os⟩ := by
  obtain ⟨i, m, F⟩ := T.up
  repeat (first | with_reducible refine wpAny_madeBy_exc hC ?_ | with_reducible refine wpAny_loadPart_at hC ?_ | wp_step)
  refine codeAny_call_builtin_code (Code.quiet_builtin _ F.quiet) (T.checkNew hC (T.new hC hz ?_))
  show wpAny _ _ _ _ _ _
  have kp : ∀ b o, hp.get? b = some o → ((hp.push (PySem.W.kdv_tup rest)).push (PySem.HandSPX.excO C hp.objs.size)).get? b = some o := fun b o z => Heap.get?_push_of_some _ (Heap.get?_push_of_some _ z)
  have hC1 := kp _ _ hC
  have ho : ((hp.push (PySem.W.kdv_tup rest)).push (PySem.HandSPX.excO C hp.objs.size)).get? (hp.objs.size + 1) = some (PySem.HandSPX.excO C hp.objs.size) := by heap_get
  have cc : (Value.ref C :: bm).contains (.ref C) = true := by simp
  have li := hi.keeps kp
  have lb := (hb (.ref (hp.objs.size + 1))).keeps kp
  unfold isInstance
  repeat (first | with_reducible refine wpAny_loadPart_at ho ?_ | (with_reducible refine wpAny_isSubtype_exc hC1 ?_; rw [cc]) | wp_step)
  show wpAny _ _ (typeLookup (.ref C) _) _ _ _
  refine li.at (wpAny_holding (wpAny_bind (lb.at ?_)))
  refine wpAny_bind (wpAny_call (codeAny_mono hq fun r s' z => ?_))
  unfold BackI at z
  rcases r with e | (v | _ | _ | _) <;> first | exact z | exact z.elim | skip
  obtain ⟨rfl, z⟩ := z
  first
    | exact wpAny_pure (wpAny_pure z)
    | (wp_walk; exact z)
/-- C(..): the object is laid, then the class's own __init__ runs -/
theorem XBs.make (T : XBs B U newId initId bm) {fI : Addr} (hC : hp.get? C = some (excClassObj nm q C N bs bm hd sn sub ab col dd k0 k1 k2 k3 k5 newId)) (hi : PySem.W.Looks (model prog w) hp (typeLookup (.ref C) "__init__") (some (.ref fI)))
    (hb : ∀ self, PySem.W.Looks (model prog w) hp (bindSpecial (.ref fI) self) (.ref fI, [self])) (hz : rest.length ≤ sizeLine)
    (hq : codeAny (model prog w) (A.under (.builtin "type.__call__" ⟨.ref C :: rest, []⟩)) (.call (.ref fI) ⟨.ref (hp.objs.size + 1) :: rest, []⟩) (PySem.W.InitBack (hp.objs.size + 1) R) ⟨(hp.push (PySem.W.kdv_tup rest)).push (PySem.HandSPX.excO C hp.objs.size), gs, dr, tk, os⟩) :
    codeAny (model prog w) A (.call (.ref C) ⟨rest, []⟩) R ⟨hp, gs, dr, tk, os⟩ := by
  have f1 := tc_lookup
  have f2 := tc_bind (.ref C)
  have ty : (⟨hp, gs, dr, tk, os⟩ : Shared).TypeIs (.ref C) "type" := ⟨_, hC, rfl⟩
  refine codeAny_of_tree ?_
  show wpAny _ _ (callAny (.ref C) _) _ _ _
  repeat (any_goals (first | assumption | with_reducible refine wpAny_loadPart_at hC ?_ | wp_step))
  refine ⟨rfl, codeAny_call_builtin_at (Code.quiet_builtin _ (by decide +kernel)) entry_typeCall (wpAny_check_type_call_sub hC (T.tcall hC hi hb hz ?_))⟩
  refine codeAny_mono hq fun r s' z => ?_
  rcases r with e | (v | _ | _ | _) <;> exact z
/-- B.__init__(e, ..) -/
theorem XBs.ini (T : XBs B U newId initId bm) {e t0 : Addr} (hC : hp.get? C = some (excClassObj nm q C N bs bm hd sn sub ab col dd k0 k1 k2 k3 k5 newId)) (he : hp.get? e = some (PySem.HandSPX.excO C t0)) (hz : rest.length ≤ sizeLine)
    (hq : ∀ h' t1, (∀ b o, b ≠ e → hp.get? b = some o → h'.get? b = some o) → h'.get? e = some (PySem.HandSPX.excO C t1) → R (.ok (.ret .none)) ⟨h', gs, dr, tk, os⟩) :
    codeAny (model prog w) A (.call (.builtin initId) ⟨.ref e :: rest, []⟩) R ⟨hp, gs, dr, tk, os⟩ := by
  obtain ⟨S, sl⟩ := T.plain
  have c1 : (Value.ref C :: bm).contains (.type B) = true := by rw [List.contains_cons, T.hB, Bool.or_true]
  have st := T.star
  refine codeAny_call_builtin sl.plain T.entry ?_
  simp only [checkBuiltinCall, T.kind, T.split, T.row]
  have hcls : (PySem.HandSPX.excO C t0).cls = .ref C := rfl
  repeat (first
    | (with_reducible refine wpAny_loadPart_at he ?_; rw [hcls])
    | with_reducible refine wpAny_loadPart_at hC ?_
    | (with_reducible refine wpAny_isSubtype_exc hC ?_; rw [c1])
    | wp_step)
  refine wpAny_onRaise ?_
  have ck : ∀ (a b : String) (n : Nat), Bind.check ⟨.positional, "*", B, .self, [⟨"args", .varPos, false⟩]⟩ a b n (List.map (fun x => x.fst) ({ pos := Value.ref e :: rest } : Args).kw) = pure () := fun a b n => check_star_args _ _ _ _ _ _
  rw [ck]
  refine wpAny_pure ?_
  wp_walk
  refine hq _ hp.objs.size (fun b o hb ho => ?_) ?_
  · rw [Heap.get?_update_other _ _ (Ne.symm hb)]
    exact Heap.get?_push_of_some _ ho
  · rw [Heap.get?_update_self _ (Heap.get?_push_of_some _ he) rfl]
    rfl
end
theorem store_KeyError : StoreFacts "KeyError" [.type "KeyError", .type "LookupError", .type "Exception", .type "BaseException", .type "object"] "object.__setattr__" "object" :=
  ⟨by kernel_rfl, .of (owner := "object") (n := "__setattr__") (by rw [typeLookup_type, builtinLookup_eq_fast]; kernel_rfl) (by decide +kernel) (by decide +kernel) (by decide +kernel) (.inl (by decide +kernel)) (by rw [isSubtype_type]; kernel_rfl),
    PySem.F.store_LookupError.entry, by decide +kernel, by decide +kernel, by decide +kernel, fun a b c => by unfold argsOk; kernel_rfl, fun self => by kernel_rfl⟩
end Mi

/-! Mi: own exceptions over any built-in class, with an __init__ of one field. -/
namespace Mi
open PySem PySem.Spec PyProof.Rows L2
/-- what the written part says of such a class -/
structure OxC (K : Frg) (C : Addr) (B newId initId : String) (bm : List Value) : Prop where
  fact : ∃ U, XBs B U newId initId bm
  st : StoreFacts B bm "object.__setattr__" "object"
  cls : ∃ nm q N bs sn sub ab col dd k0 k1 k2 k3 k5, K.lookup C = some (excClassObj nm q C N bs bm true sn sub ab col dd k0 k1 k2 k3 k5 newId)
  sa : PySem.W.findIn K (.ref C) "__setattr__" = some (some (.builtin "object.__setattr__"))
  exC : PySem.W.subIn K (.ref C) (.type "BaseException") = some true
  tyC : PySem.W.typeIn K (.ref C) = some (.type "type")
  kC : PySem.W.keepIn K (.ref C) = true
section
open PySem.Builtin PySem.Builtin.ObjectAttr PySem.HandSPX
variable {prog : Program} {w : World} {A : Around} {R : Result → Shared → Prop} {hp : Heap} {g : Array GenState} {d : Drawn} {t : Nat} {os : OsState}
/-- the first field of an exception of such a class -/
theorem osaG {K : Frg} {name : Str} {tk : Tok} {v : Value} {x C : Addr} {fv : Array Value} {cd : ClassData} {B : String} {bm : List Value} (sf : StoreFacts B bm "object.__setattr__" "object")
    (kin : K.In hp) (hx : hp.get? x = some { cls := .ref C, data := .fields fv }) (hcd : PySem.W.clsIn K C = some cd) (hm : cd.mro = .ref C :: bm) (hh : cd.hasDict = true) (ha : PySem.W.findIn K (.ref C) name = some none)
    (hq : ∀ h' tk' dx, (∀ b o, b ≠ x → hp.get? b = some o → h'.get? b = some o) → hp.objs.size ≤ dx → dx ≠ x → h'.get? x = some { cls := .ref C, dict := some dx, data := .fields fv } →
      h'.Ns1 dx (fun y => if y = name then some v else none) → R (.ok (.ret .none)) ⟨h', g, d, tk', os⟩) :
    codeAny (model prog w) A (.call (.builtin "object.__setattr__") ⟨[.ref x, .str name tk, v], []⟩) R ⟨hp, g, d, t, os⟩ := by
  have ins : PySem.W.InstAt hp x { cls := .ref C, data := .fields fv } C none := ⟨hx, rfl, rfl, trivial⟩
  have so := F.store_object
  have hob : cd.mro.contains (.type "object") = true := by rw [hm, List.contains_cons, sf.hasOwner, Bool.or_true]
  have hxs : x ≠ hp.objs.size := Nat.ne_of_lt (Heap.lt_size hx)
  have isO : PySem.W.Looks (model prog w) hp (isInstance (.ref x) (.type "object")) true := ins.type.andThen (PySem.W.looks_mroIn kin (by unfold PySem.W.mroIn; rw [hcd, Option.bind_some, if_neg (by rw [hm]; exact Bool.false_ne_true), hob]))
  refine codeAny_call_builtin so.slot.plain so.entry (@PySem.W.check_slot (model prog w) _ _ ⟨hp, g, d, t, os⟩ "object.__setattr__" "object" "__setattr__" (.ref x) [.str name tk, v] [] _ so.kind so.split isO (so.args (.ref x) (.str name tk) v) ?_)
  have lm : PySem.W.Looks (model prog w) hp (mroOf (.ref C)) cd.mro := (PySem.W.looks_clsIn kin hcd).andThen .now
  have l3 : PySem.W.Looks (model prog w) hp (storeTaker? none) none := .now
  have lc : PySem.W.Looks (model prog w) hp (classData C) cd := PySem.W.looks_clsIn kin hcd
  rw [PySem.W.osa_eq, refuse_eq]
  refine wpAny_bind (wpAny_bind (ins.type.at (wpAny_bind (lm.at ?_))))
  rw [hm, refuseLoop_ref, sf.passes]
  refine wpAny_pure (wpAny_bind (ins.type.at (wpAny_bind ((PySem.W.looks_findIn kin ha).at (wpAny_bind (l3.at ?_))))))
  show wpAny _ _ (storeInOwnDict (.ref x) (.ref C) (.str name tk) name v false) _ _ _
  obtain ⟨nm, bs, mro, ns, qn, hd, sn, sb, ab, col, del⟩ := cd
  dsimp only at hh
  subst hh
  unfold storeInOwnDict ownDictForStores
  repeat (first | with_reducible refine store_in_new ?_ ?_ | with_reducible refine wpAny_loadPart_at hx ?_ | with_reducible refine lc.at ?_ | wp_step)
  · exact ⟨_, #[], _, (Heap.get?_update_ne _ _ _ _ hxs.symm).trans (Heap.get?_push_at rfl rfl), rfl, fun e he => absurd he (by simp), fun _ => rfl⟩
  · intro h' tk' hn' hs
    have hx1 : (hp.push { cls := .type "dict", data := .dict #[] }).get? x = some { cls := .ref C, data := .fields fv } := Heap.get?_push_of_some _ hx
    refine hq h' tk' hp.objs.size (fun b o hb ho => ?_) (Nat.le_refl _) hxs.symm ?_ hn'
    · exact (hs.2 b (Nat.ne_of_lt (Heap.lt_size ho))).trans ((Heap.get?_update_ne _ _ _ _ hb).trans (Heap.get?_push_of_some _ ho))
    · exact (hs.2 x hxs).trans (Heap.get?_update_self _ hx1 rfl)
end
section
variable {X : Cx} {pins : List (Addr × Obj)} {σ : L2.St} {H : Hp} {s : Shared} {a C dx : Addr} {f : Str} {y : V} {u : Value} {Q : Unit → Shared → Prop} {E : Value → Shared → Prop} {A : Around} {B newId initId : String} {bm : List Value}
/-- self.f = y -/
theorem ostG (T : OxC X.K C B newId initId bm) (I : Inv X pins σ H s) (e : H a = some (exo a C none)) (hno : PySem.W.findIn X.K (.ref C) f = some none) (ry : RelV y u)
    (h : ∀ dx s', H dx = none → dx ≠ a → Inv X pins σ (upd (upd H dx (exd dx [(f, y)])) a (exo a C (some dx))) s' → Q () s') : wpAny (model X.prog X.w) A (setAttr (.ref a) f u) Q E s := by
  obtain ⟨nm, q, N, bs, sn, sub, ab, col, dd, k0, k1, k2, k3, k5, hC⟩ := T.cls
  have hcl : PySem.W.clsIn X.K C = some { name := nm, bases := bs, mro := .ref C :: bm, ns := N, qualname := q, hasDict := true, slotNames := sn, subclasses := sub, abstract := ab, collection := col, hasDel := false } := by unfold PySem.W.clsIn; rw [hC] <;> rfl
  obtain ⟨t1, ho⟩ := exo_at I.hok e
  obtain ⟨hp, g, d, t, os⟩ := s
  refine PySem.W.set_plain I.kIn (ox := { cls := .ref C, dict := none, data := .fields #[.ref t1, .none, .none, .none, .bool false, .none] }) (od := none) ⟨ho, rfl, rfl, trivial⟩ T.sa ?_
  refine osaG T.st I.kIn ho hcl rfl rfl hno (fun h' tk' dx k dn dne hx hn => ?_)
  have hnd : H dx = none := I.hok.fresh dn
  have nd : ∀ {b : Addr} {o : Obj}, hp.get? b = some o → b ≠ dx := fun {b o} q => Nat.ne_of_lt (Nat.lt_of_lt_of_le (Heap.lt_size q) dn)
  have na : ∀ {b : Addr}, H b = none → b ≠ a := fun {b} n z => by
    rw [z, e] at n
    cases n
  have un : Un X.fs [] H (upd (upd H dx (exd dx [(f, y)])) a (exo a C (some dx))) hp h' := {
    keep := fun b o q n _ _ => k b o (na n) q
    slot := fun b o q n _ _ => ⟨o.slots, k b o (na n) q⟩
    free := fun b o q n _ => by rw [upd_ne (na n), upd_ne (nd q)]; exact n
    there := fun b o q _ => by
      by_cases hb : b = a
      · exact ⟨_, by rw [hb]; exact hx⟩
      · exact ⟨o, k b o hb q⟩
    tups := fun b xs q => by rw [upd_ne (at_ne e q exo_tup), upd_ne (ne_of_none q hnd)]; exact q
    frzs := fun b o v q => by rw [upd_ne (at_ne e q exo_frz), upd_ne (ne_of_none q hnd)]; exact q
    tbls := fun b ps q => ⟨#[], by rw [upd_ne (at_ne e q exo_tbl), upd_ne (ne_of_none q hnd), q]; simp⟩ }
  refine h dx _ hnd dne (I.un (t' := tk') un fun b o q => ?_)
  by_cases hb : b = a
  · subst hb
    rw [upd_same] at q
    cases q
    exact exo_ok hx
  · rw [upd_ne hb] at q
    by_cases hd : b = dx
    · subst hd
      rw [upd_same] at q
      cases q
      exact exd_ok hn (relO_put (fs := []) ry fun g => True.intro)
    · rw [upd_ne hd] at q
      refine (I.hok b o q).stay (fun c v hc z => k c v ?_ z) (fun c hc => by rw [upd_ne (at_ne e hc exo_own), upd_ne (ne_of_none hc hnd)]; exact hc) (fun c xs hc => by rw [upd_ne (at_ne e hc exo_tup), upd_ne (ne_of_none hc hnd)]; exact hc)
      rcases hc with hc | hc
      · rw [hc]
        exact hb
      · exact at_ne e hc exo_own
/-- B.__init__(self, ..): nothing of it is told -/
theorem initG {us : List Value} {Q : Value → Shared → Prop} (T : OxC X.K C B newId initId bm) (I : Inv X pins σ H s) (e : H a = some (exo a C none)) (hl : us.length ≤ sizeLine) (h : ∀ s', Inv X pins σ H s' → Q .none s') :
    wpAny (model X.prog X.w) A (call (.builtin initId) (.ref a :: us)) Q E s := by
  obtain ⟨nm, q, N, bs, sn, sub, ab, col, dd, k0, k1, k2, k3, k5, hC⟩ := T.cls
  obtain ⟨t1, ho⟩ := exo_at I.hok e
  obtain ⟨hp, g, d, t, os⟩ := s
  obtain ⟨U, F⟩ := T.fact
  refine wpAny_call (F.ini (I.kIn _ _ hC) ho hl fun h' t2 k hx => ?_)
  have J := I.write (t' := t) (x := a) (e := a) (o := exo a C none) (by rw [e]; exact True.intro) (.inl rfl) k ⟨_, hx⟩ (exo_ok hx)
  have eu : upd H a (exo a C none) = H := by
    funext b
    by_cases hb : b = a
    · rw [hb, upd_same, e]
    · rw [upd_ne hb]
  rw [eu] at J
  exact h _ J
end
/-! ### the __init__ -/
/-- what holds of the built-in class's name -/
structure BsC (K : Frg) (B initId : String) : Prop where
  boot : bootBuiltins (Str.ofString B) = some (.type B)
  ty : typeOf (.type B) = pure (.type "type")
  stub : Manifest.isStub B = false
  ini : PySem.W.findCls K (.type B) (.type "type") "__init__" = some (.val (.builtin initId))
  hand : PySem.W.handedIn (.builtin initId) = true
  nm : Str.ofString B ≠ "__name__"
  db : (Str.ofString B == ("__debug__" : Str)) = false
def spI (C : Addr) (f : Str) : Sp := fun vs H Q _ => ∃ a v, vs = [.ref a, v] ∧ H a = some (exo a C none) ∧ ∀ dx, H dx = none → dx ≠ a → Q .non (upd (upd H dx (exd dx [(f, v)])) a (exo a C (some dx)))
section
variable {X : Cx} {C : Addr} {f : Str} {B newId initId : String} {bm : List Value} {p p1 p2 p3 p4 p5 p6 pos pos2 : Pos} {m : Str} {j : Nat}
theorem pe_initG {pl : Sem Bool} {e : Expr} {es : List Expr} {ta : TA} (T : OxC X.K C B newId initId bm) (b : BsC X.K B initId) (hg : Gl X (Str.ofString B)) (hm : X.mg (Str.ofString B) = none) (ha : PA X (e :: es) ta)
    (hc : eval (.Call (.Attribute (.Name (Str.ofString B) p1) "__init__" p2) (e :: es) [] pos) X.env = (do
      let ov ← eval (.Name (Str.ofString B) p1) X.env
      standAt p2.atName
      let (f, first) ← holding [ov] (getMethod ov "__init__" pl)
      callWith pos f first (backTo pos (starEach (e :: es) X.env)) (backToKw pos (keywordEach [] X.env))))
    (he : starEach (e :: es) X.env = (false, eval e X.env) :: starEach es X.env) (hpl : (backTo pos (starEach es X.env)).any (·.1) = false) :
    PE X (.Call (.Attribute (.Name (Str.ofString B) p1) "__init__" p2) (e :: es) [] pos) (fun σ H Q => ta σ H fun vs H1 => ∃ (a : Addr) (ws : List V), vs = .ref a :: ws ∧ ws.length ≤ 1000 ∧ H1 a = some (exo a C none) ∧ Q .non H1) := by
  constructor
  intro pins s σ H Q I h
  refine PySem.W.methodCall_KW (ld_blt I hg hm b.boot ?_ b.nm b.db) hc
  obtain ⟨mm, fr⟩ := I.fr
  refine PySem.W.method_type fr I.ok.mod.kin b.ty b.stub b.ini b.hand ?_
  show wpAny _ _ (callWith pos (Value.builtin initId) [] (backTo pos (starEach (e :: es) X.env)) []) _ _ _
  refine PyProof.Rows.callWith_method1 (thn (ha.run pos pins _ σ H _ (I.tok _) h) ?_) he hpl
  rintro us s1 ⟨vs, H1, J, rv, a, ws, ev, hl, ea, q⟩
  subst ev
  cases rv with
  | @cons _ u0 _ ur ra rws =>
    obtain rfl : u0 = Value.ref a := ra
    refine initG T J ea ?_ fun s' J' => ⟨.non, H1, J', rfl, q⟩
    rw [← Paired.length rws, sizeLine_eq]
    omega
theorem ps_ostG {o e : Expr} {to te : TE} (T : OxC X.K C B newId initId bm) (hno : PySem.W.findIn X.K (.ref C) f = some none) (ho : PE X o to) (he : PE X e te) (hs : swapsWith e (some (.Attribute o f p)) pos.line X.env = pure false) :
    PS X (.Assign [.Attribute o f p] e pos) (fun D σ H => te σ H fun y H1 => to σ H1 fun x H2 => ∃ a : Addr, x = .ref a ∧ H2 a = some (exo a C none) ∧ ∀ dx, H2 dx = none → dx ≠ a → D.nx σ (upd (upd H2 dx (exd dx [(f, y)])) a (exo a C (some dx)))) := by
  constructor
  intro pins s σ H D I h
  refine plainObj_wpAny_Assign_Attribute (thn (he.run pins s σ H _ I h) ?_) hs
  rintro v s1 ⟨y, H1, I1, r1, q1⟩
  refine thn (ho.run pins s1 σ H1 _ I1 q1) ?_
  rintro u s2 ⟨x, H2, I2, r2, a, rfl, ea, q⟩
  obtain rfl : u = Value.ref a := r2
  exact ostG T I2 ea hno r1 fun dx s' n ne J => ⟨σ, _, J, q dx n ne⟩
end
section
variable {P : Program} {w : World} {K : Frg} {mg : Str → Option Value} {base : Heap} {C : Addr} {f : Str} {B newId initId : String} {bm : List Value}
/-- the form of the text -/
theorem initCall {x : Str} {p1 p2 p3 p4 pos : Pos} {s1 mm : Str} {jj : Nat} {env : Env} (hline : (p2.endLine == pos.line) = true) : eval (.Call (.Attribute (.Name x p1) "__init__" p2) [.Name s1 p3, .Constant (.str mm) jj p4] [] pos) env = (do
      let ov ← eval (.Name x p1) env
      standAt p2.atName
      let (f, first) ← holding [ov] (getMethod ov "__init__" (do return (← importBound (.Name x p1) env).getD true))
      callWith pos f first (backTo pos (starEach [.Name s1 p3, .Constant (.str mm) jj p4] env)) (backToKw pos (keywordEach [] env))) := by
  show (do
    let ov ← eval (.Name x p1) env
    standAt p2.atName
    methodCall (.Name x p1) "__init__" p2 pos env ov 2 (backTo pos (starEach [.Name s1 p3, .Constant (.str mm) jj p4] env)) (backToKw pos (keywordEach [] env))) = _
  have e : methodCallPos true (.Name x p1) env p2 pos = pure pos := by
    unfold methodCallPos
    rw [hline]
    rfl
  unfold methodCall
  have e2 : methodCallForm 2 (backTo pos (starEach [.Name s1 p3, .Constant (.str mm) jj p4] env)) (backToKw pos (keywordEach [] env)) = true := rfl
  rw [e2, e]
  rfl
def initOk (B : String) (f : Str) (sv xv : Str) : List Stmt → Bool
  | [.Expr (.Call (.Attribute (.Name b _) i p2) [.Name s1 _, .Constant (.str _) _ _] [] pos) _, .Assign [.Attribute (.Name s2 _) g _] (.Name x _) _] =>
    b == Str.ofString B && i == ("__init__" : Str) && s1 == sv && s2 == sv && g == f && x == xv && (p2.endLine == pos.line)
  | _ => false
theorem ok_init {x qual : Str} {st : Stmt} {fI : Addr} {fd : FuncData} {sv xv : Str} (F : L2.Fun K x qual st fI fd) (S : FnScope [sv, xv] [sv, xv] (defScope st)) (T : OxC K C B newId initId bm) (b : BsC K B initId) (hm : mg (Str.ofString B) = none)
    (hno : PySem.W.findIn K (.ref C) f = some none) (hf : initOk B f sv xv (defBody st) = true) (hg : (defScope st).names.lookup (Str.ofString B) = some .globalImplicit) (hd1 : (sv == ("__debug__" : Str)) = false) (hd2 : (sv == ("__classdict__" : Str)) = false) (hd3 : (xv == ("__debug__" : Str)) = false) (hd4 : (xv == ("__classdict__" : Str)) = false) :
    FnOk P w K mg base (L2.CX P w) 1 fI fd [sv, xv] (spI C f) := by
  refine F.okX S (fun vs H Q E ⟨a, v, e, _⟩ => by rw [e]; rfl) fun cdv A outer s H vs Q E hr ⟨a, v, e, ha, q⟩ => ?_
  subst e
  generalize hb : defBody st = body at hf
  unfold initOk at hf
  split at hf
  · rename_i b0 p1 i p2 s1 p3 mm jj p4 pos pos' s2 p5 g p6 x1 p7 pos2
    simp only [Bool.and_eq_true, beq_iff_eq] at hf
    obtain ⟨⟨⟨⟨⟨⟨rfl, rfl⟩, rfl⟩, rfl⟩, rfl⟩, rfl⟩, hline⟩ := hf
    have n0 : Vis (defScope st) s2 := by
      rcases S.par s2 List.mem_cons_self with z | z
      · exact .inl z
      · exact .inr (.inl z)
    have n1 : Vis (defScope st) x1 := by
      rcases S.par x1 (List.mem_cons_of_mem _ List.mem_cons_self) with z | z
      · exact .inl z
      · exact .inr (.inl z)
    refine ⟨_, pss_cons (ps_expr (pe_initG (X := cxOf (L2.CX P w) P w K mg base [s2, x1] qual (defScope st) fI cdv A outer s H E) T b hg hm (pa_cons (pe_var (i := 0) rfl n0 hd1 hd2) (pa_cons pe_str pa_nil rfl) rfl) (initCall (beq_iff_eq.mpr hline)) rfl rfl) rfl)
      (pss_one (ps_ostG T hno (pe_var (i := 0) rfl n0 hd1 hd2) (pe_var (i := 1) rfl n1 hd3 hd4) rfl)), ?_⟩
    exact ⟨.ref a, rfl, a, [.str mm], rfl, by simp, ha, v, rfl, .ref a, rfl, a, rfl, ha, q⟩
  · cases hf
end
/-! ### C(e) -/
section
variable {X : Cx} {C fI : Addr} {f : Str} {B newId initId : String} {bm : List Value} {fd : FuncData} {sv xv x : Str} {e : Expr} {ta : TA} {p pos : Pos}
theorem pmkG (T : OxC X.K C B newId initId bm) (iC : PySem.W.findIn X.K (.ref C) "__init__" = some (some (.ref fI))) (tI : PySem.W.typeIn X.K (.ref fI) = some (.type "function"))
    (F1 : FnOk X.prog X.w X.K X.mg X.base (L2.CX X.prog X.w) 1 fI fd [sv, xv] (spI C f)) (hr : Room 2 X.A) (hb : Binds X.K fd [sv, xv] []) (hg : Gl X x) (hm : X.mg x = some (.ref C)) (ha : PA X [e] ta)
    (hdb : (x == ("__debug__" : Str)) = false) (he : starEach [e] X.env = (false, eval e X.env) :: starEach [] X.env) :
    PMk X (.Call (.Name x p) [e] [] pos) (fun σ H Q => ta σ H fun vs H1 => ∃ v, vs = [v] ∧ ∀ d, H1 d = none → Q (.ref C) (some d) (upd H1 d (.xd [(f, v)]))) := by
  intro pins s σ H Q I h
  obtain ⟨nm, q, N, bs, sn, sub, ab, col, dd, k0, k1, k2, k3, k5, hC⟩ := T.cls
  refine wpAny_Call_Name_kw (ld_glob I hg hm ?_ hdb)
  refine PySem.W.callWith_K (h₀ := X.base) I.ok.mod.kin T.kC (thn (ha.run pos pins s σ H _ I h) ?_) he (by rfl)
  rintro us s1 ⟨vs, H1, J, rv, v, ev, q1⟩
  refine ⟨J.kIn, ?_⟩
  subst ev
  show wpAny _ _ (call (.ref C) us) _ _ _
  obtain ⟨hp, g, dr, tk, os⟩ := s1
  have hsz : hp.objs.size ≤ hp.objs.size + 1 := Nat.le_succ _
  have hn : H1 (hp.objs.size + 1) = none := J.hok.fresh hsz
  have kk : ∀ b o, hp.get? b = some o → ((hp.push (PySem.W.kdv_tup us)).push (PySem.HandSPX.excO C hp.objs.size)).get? b = some o := fun b o z => Heap.get?_push_of_some _ (Heap.get?_push_of_some _ z)
  have hget : ((hp.push (PySem.W.kdv_tup us)).push (PySem.HandSPX.excO C hp.objs.size)).get? (hp.objs.size + 1) = some (PySem.HandSPX.excO C hp.objs.size) := by heap_get
  have I2 : Inv X pins σ (upd H1 (hp.objs.size + 1) (exo (hp.objs.size + 1) C none)) ⟨(hp.push (PySem.W.kdv_tup us)).push (PySem.HandSPX.excO C hp.objs.size), g, dr, tk, os⟩ := J.laid (t' := tk) kk hsz (exo_ok hget)
  have r2 : Vals [V.ref (hp.objs.size + 1), v] (Value.ref (hp.objs.size + 1) :: us) := .cons rfl rv
  have hbb : BindsTo ⟨(hp.push (PySem.W.kdv_tup us)).push (PySem.HandSPX.excO C hp.objs.size), g, dr, tk, os⟩ fd ⟨Value.ref (hp.objs.size + 1) :: us, []⟩ ([sv, xv].zip (Value.ref (hp.objs.size + 1) :: us)) := by
    have z := hb _ (Value.ref (hp.objs.size + 1) :: us) I2.kIn (by rw [List.append_nil, ← r2.length]; rfl)
    rw [List.append_nil] at z
    exact z
  have hq : spI C f [V.ref (hp.objs.size + 1), v] (upd H1 (hp.objs.size + 1) (exo (hp.objs.size + 1) C none)) (fun w2 H2 => w2 = .non ∧ ∃ d, H2 (hp.objs.size + 1) = some (exo (hp.objs.size + 1) C (some d)) ∧ H2 d = some (exd d [(f, v)]) ∧ H1 d = none ∧ Q (.ref C) (some d) (upd (del H2 (hp.objs.size + 1)) d (.xd [(f, v)]))) (fun _ _ _ => False) := by
    refine ⟨_, v, rfl, upd_same, fun dx h1 h2 => ⟨rfl, dx, upd_same, ?_, ?_, ?_⟩⟩
    · rw [upd_ne h2, upd_same]
    · rw [upd_ne h2] at h1; exact h1
    · rw [upd_ne h2] at h1
      have z := q1 dx h1
      refine cast (congrArg _ ?_) z
      funext b
      by_cases b1 : b = dx
      · rw [b1, upd_same, upd_same]
      · rw [upd_ne b1, upd_ne b1]
        unfold del
        by_cases b2 : b = hp.objs.size + 1
        · rw [if_pos b2, b2]; exact hn
        · rw [if_neg b2, upd_ne b2, upd_ne b1, upd_ne b2]
  obtain ⟨U, FU⟩ := T.fact
  refine wpAny_call (FU.make (J.kIn _ _ hC) (PySem.W.looks_findIn J.kIn iC) (fun self => PySem.W.bind_fn J.kIn self tI) (by rw [← rv.length, sizeLine_eq]; show 1 ≤ 16777216; omega)
    (codeAny_mono (F1.run _ X.stack _ _ ⟨Value.ref (hp.objs.size + 1) :: us, []⟩ (Value.ref (hp.objs.size + 1) :: us) _ _ (fun _ _ _ => False) (hr.make C us []) (I2.env0.make C us []) hbb r2 hq) ?_))
  intro r s' hq'
  match r, hq' with
  | .error er, hq' =>
    obtain ⟨_, _, _, _, _, _, _, _, _, _, _, _, z⟩ := hq'
    exact z.elim
  | .ok (.ret u), hq' =>
    obtain ⟨w2, H2, os2, bare2, un2, hok2, rw2, ew, d, ea, ed, hd1, q2⟩ := hq'
    subst ew
    obtain ⟨h2, g2, d2, t2, os'⟩ := s'
    exact ⟨rw2, mk_end (raises_own T.exC T.tyC) J hsz kk un2 hok2 os2 bare2 ea ed hd1 q2⟩
/-- C(e) as a value -/
theorem pe_mkG (T : OxC X.K C B newId initId bm) (iC : PySem.W.findIn X.K (.ref C) "__init__" = some (some (.ref fI))) (tI : PySem.W.typeIn X.K (.ref fI) = some (.type "function"))
    (F1 : FnOk X.prog X.w X.K X.mg X.base (L2.CX X.prog X.w) 1 fI fd [sv, xv] (spI C f)) (hr : Room 2 X.A) (hb : Binds X.K fd [sv, xv] []) (hg : Gl X x) (hm : X.mg x = some (.ref C)) (ha : PA X [e] ta)
    (hdb : (x == ("__debug__" : Str)) = false) (he : starEach [e] X.env = (false, eval e X.env) :: starEach [] X.env) :
    PE X (.Call (.Name x p) [e] [] pos) (fun σ H Q => ta σ H fun vs H1 => ∃ v, vs = [v] ∧ ∀ a dx, H1 a = none → H1 dx = none → dx ≠ a → Q (.ref a) (upd (upd H1 dx (exd dx [(f, v)])) a (exo a C (some dx)))) := by
  refine ⟨fun pins s σ H Q I h => ?_⟩
  obtain ⟨nm, q, N, bs, sn, sub, ab, col, dd, k0, k1, k2, k3, k5, hC⟩ := T.cls
  refine wpAny_Call_Name_kw (ld_glob I hg hm ?_ hdb)
  refine PySem.W.callWith_K (h₀ := X.base) I.ok.mod.kin T.kC (thn (ha.run pos pins s σ H _ I h) ?_) he (by rfl)
  rintro us s1 ⟨vs, H1, J, rv, v, ev, q1⟩
  refine ⟨J.kIn, ?_⟩
  subst ev
  ·
    show wpAny _ _ (call (.ref C) us) _ _ _
    obtain ⟨hp, g, dr, tk, os⟩ := s1
    have hsz : hp.objs.size ≤ hp.objs.size + 1 := Nat.le_succ _
    have hn : H1 (hp.objs.size + 1) = none := J.hok.fresh hsz
    have kk : ∀ b o, hp.get? b = some o → ((hp.push (PySem.W.kdv_tup us)).push (PySem.HandSPX.excO C hp.objs.size)).get? b = some o := fun b o z => Heap.get?_push_of_some _ (Heap.get?_push_of_some _ z)
    have hget : ((hp.push (PySem.W.kdv_tup us)).push (PySem.HandSPX.excO C hp.objs.size)).get? (hp.objs.size + 1) = some (PySem.HandSPX.excO C hp.objs.size) := by heap_get
    have I2 : Inv X pins σ (upd H1 (hp.objs.size + 1) (exo (hp.objs.size + 1) C none)) ⟨(hp.push (PySem.W.kdv_tup us)).push (PySem.HandSPX.excO C hp.objs.size), g, dr, tk, os⟩ := J.laid (t' := tk) kk hsz (exo_ok hget)
    have r2 : Vals [V.ref (hp.objs.size + 1), v] (Value.ref (hp.objs.size + 1) :: us) := .cons rfl rv
    have hbb : BindsTo ⟨(hp.push (PySem.W.kdv_tup us)).push (PySem.HandSPX.excO C hp.objs.size), g, dr, tk, os⟩ fd ⟨Value.ref (hp.objs.size + 1) :: us, []⟩ ([sv, xv].zip (Value.ref (hp.objs.size + 1) :: us)) := by
      have z := hb _ (Value.ref (hp.objs.size + 1) :: us) I2.kIn (by rw [List.append_nil, ← r2.length]; rfl)
      rw [List.append_nil] at z
      exact z
    have hq : spI C f [V.ref (hp.objs.size + 1), v] (upd H1 (hp.objs.size + 1) (exo (hp.objs.size + 1) C none)) (fun w2 H2 => w2 = .non ∧ Q (.ref (hp.objs.size + 1)) H2) (fun _ _ _ => False) := by
      refine ⟨_, v, rfl, upd_same, fun dx h1 h2 => ⟨rfl, ?_⟩⟩
      rw [upd_ne h2] at h1
      refine cast (congrArg _ ?_) (q1 (hp.objs.size + 1) dx hn h1 h2)
      funext b
      by_cases b2 : b = hp.objs.size + 1
      · rw [b2, upd_same, upd_same]
      · rw [upd_ne b2, upd_ne b2]
        by_cases b1 : b = dx
        · rw [b1, upd_same, upd_same]
        · rw [upd_ne b1, upd_ne b1, upd_ne b2]
    obtain ⟨U, FU⟩ := T.fact
    refine wpAny_call (FU.make (J.kIn _ _ hC) (PySem.W.looks_findIn J.kIn iC) (fun self => PySem.W.bind_fn J.kIn self tI) (by rw [← rv.length, sizeLine_eq]; show 1 ≤ 16777216; omega)
      (codeAny_mono (F1.run _ X.stack _ _ ⟨Value.ref (hp.objs.size + 1) :: us, []⟩ (Value.ref (hp.objs.size + 1) :: us) _ _ (fun _ _ _ => False) (hr.make C us []) (I2.env0.make C us []) hbb r2 hq) ?_))
    intro r s' hq'
    match r, hq' with
    | .error er, hq' =>
      obtain ⟨_, _, _, _, _, _, _, _, _, _, _, _, z⟩ := hq'
      exact z.elim
    | .ok (.ret u), hq' =>
      obtain ⟨w2, H2, os2, bare2, un2, hok2, rw2, ew, q2⟩ := hq'
      subst ew
      exact ⟨rw2, ⟨.ref (hp.objs.size + 1), H2, I2.call' os2 un2 hok2 bare2 (fun _ z => nomatch z), rfl, q2⟩⟩
end
end Mi

/-! Mi: operations on plain data, and the layer's rules for them. -/
namespace Mi
open PySem PySem.Spec PyProof.Rows L2

def Post (K : Frg) (r : Rho) (H : Hp) (Q : VK) (p : PD) : Prop := ∀ v H', Same H H' → RP K r H' v p → Q v H'
section
variable {K : Frg} {r : Rho} {H : Hp} {Q : VK}
theorem Post.here {p : PD} (q : Post K r H Q p) {v : V} (h : RP K r H v p) : Q v H := q v H (Same.refl H) h
theorem Post.tup {ds : List PD} (q : Post K r H Q (.tuple ds)) (t : Trk r H) {ys : List V} (h : RPs K r H ys ds) : ∀ p, H p = none → Q (.ref p) (upd H p (.tup ys)) := fun p hp =>
  q _ _ (same_new hp) (.tup (.inl ⟨.inl upd_same, t.off hp⟩) (h.sm (same_new hp)))
theorem Post.lst {ds : List PD} (q : Post K r H Q (.list ds)) (t : Trk r H) {ys : List V} (h : RPs K r H ys ds) : ∀ p, H p = none → Q (.ref p) (upd H p (.lst ys)) := fun p hp =>
  q _ _ (same_new hp) (.lst upd_same (t.off hp) (h.sm (same_new hp)))
end
/-- a two-place operation: the objects themselves; what may be read -/
def rX2 (K : Frg) (g : PD → PD → Option PD) : R2 := fun x y H Q => ∃ r d e p, Vx K r H x d ∧ Vx K r H y e ∧ Trk r H ∧ g d e = some p ∧ Post K r H Q p
def rW2 (K : Frg) (g : PD → PD → Option PD) : R2 := fun x y H Q => ∃ r d e p, Vw K r H x d ∧ Vw K r H y e ∧ Trk r H ∧ g d e = some p ∧ Post K r H Q p
theorem imp2 {X : Cx} {f : Value → Value → Sem Value} {r r' : R2} (h : OpR X f r) (i : ∀ x y H Q, r' x y H Q → r x y H Q) : OpR X f r' := fun pins s σ H x y v u Q I rx ry q =>
  h pins s σ H x y v u Q I rx ry (i x y H Q q)

def addP : PD → PD → Option PD
  | .int i, .int j => some (.int (i + j))
  | .str x, .str y => if x.length + y.length ≤ sizeLine then some (.str (x ++ y)) else none
  | .list xs, .list ys => if xs.length + ys.length ≤ sizeLine then some (.list (xs ++ ys)) else none
  | .tuple xs, .tuple ys => if xs.length + ys.length ≤ sizeLine then some (.tuple (xs ++ ys)) else none
  | _, _ => none
def subP : PD → PD → Option PD
  | .int i, .int j => some (.int (i - j))
  | _, _ => none
def mulP : PD → PD → Option PD
  | .int i, .int j => if i.natAbs < 2 ^ 64 ∨ j.natAbs < 2 ^ 64 then some (.int (i * j)) else none
  | .list xs, .int k => if -(2 ^ 63) ≤ k ∧ k < 2 ^ 63 ∧ xs.length * k.toNat ≤ sizeLine then some (.list (List.replicate k.toNat xs).flatten) else none
  | .tuple xs, .int k => if xs ≠ [] ∧ 0 ≤ k ∧ k ≤ 1000 ∧ xs.length ≤ 1000 then some (.tuple (List.replicate k.toNat xs).flatten) else none
  | _, _ => none
def fdivP : PD → PD → Option PD
  | .int i, .int j => if 0 < j ∧ j.natAbs.log2 < 9000 then some (.int (i / j)) else none
  | _, _ => none
def modP : PD → PD → Option PD
  | .int i, .int j => if 0 < j then some (.int (i % j)) else none
  | _, _ => none
def powP : PD → PD → Option PD
  | .int i, .int j => if 0 ≤ j ∧ (Builtin.Int.intBits i : Int) * j ≤ 2 ^ 27 then some (.int (i ^ j.toNat)) else none
  | _, _ => none
def binP : Operator → PD → PD → Option PD
  | .Add => addP
  | .Sub => subP
  | .Mult => mulP
  | .FloorDiv => fdivP
  | .Mod => modP
  | .Pow => powP
  | _ => fun _ _ => none
section
variable {X : Cx}
theorem natAbs_iff {i : Int} : i.natAbs < 2 ^ 64 → -(2 ^ 64) < i ∧ i < 2 ^ 64 := fun h => by omega
theorem op_powX : OpR X (binaryOp .Pow) (rI (fun i j => 0 ≤ j ∧ (Builtin.Int.intBits i : Int) * j ≤ 2 ^ 27) fun i j => .int (i ^ j.toNat)) := opI fun _ _ _ _ _ _ _ hc q => pow_int hc.1 hc.2 q
theorem bin_add : OpR X (binaryOp .Add) (rX2 X.K addP) := by
  refine imp2 (op_add.or (op_add_str.or (op_cat.or op_catA))) fun x y H Q h => ?_
  obtain ⟨r, d, e, p, hx, hy, ht, hp, q⟩ := h
  cases d with
  | int i =>
    cases e with
    | int j =>
      cases hx.int; cases hy.int
      cases hp
      exact .inl ⟨i, j, rfl, rfl, q.here (.int _)⟩
    | _ => cases hp
  | str i =>
    cases e with
    | str j =>
      cases hx.str; cases hy.str
      simp only [addP] at hp
      split at hp
      · rename_i hz
        cases hp
        exact .inr (.inl ⟨i, j, rfl, rfl, hz, q.here (.str _)⟩)
      · cases hp
    | _ => cases hp
  | list ds =>
    cases e with
    | list es =>
      obtain ⟨a, ys, rfl, h1, h2⟩ := hx.list
      obtain ⟨b, zs, rfl, h3, h4⟩ := hy.list
      simp only [addP] at hp
      split at hp
      · rename_i hz
        cases hp
        exact .inr (.inr (.inl ⟨a, b, ys, zs, rfl, rfl, h1, h3, by rw [h2.length, h4.length]; exact hz, q.lst ht (h2.append h4)⟩))
      · cases hp
    | _ => cases hp
  | tuple ds =>
    cases e with
    | tuple es =>
      obtain ⟨a, ys, rfl, h1, h2⟩ := hx.tuple
      obtain ⟨b, zs, rfl, h3, h4⟩ := hy.tuple
      simp only [addP] at hp
      split at hp
      · rename_i hz
        cases hp
        refine .inr (.inr (.inr ⟨a, b, ys, zs, rfl, rfl, h1.sq, h3.sq, by rw [h2.length, h4.length]; exact hz, fun z => ?_, fun _ z => ?_, fun _ _ => q.tup ht (h2.append h4)⟩))
        · subst z
          cases h2
          exact q.here (.tup h3 h4)
        · subst z
          cases h4
          rw [List.append_nil] at q
          exact q.here (.tup h1 h2)
      · cases hp
    | _ => cases hp
  | _ => cases hp
theorem bin_sub : OpR X (binaryOp .Sub) (rX2 X.K subP) := by
  refine imp2 op_sub fun x y H Q h => ?_
  obtain ⟨r, d, e, p, hx, hy, ht, hp, q⟩ := h
  cases d <;> cases e <;> first
    | (cases hx.int; cases hy.int; cases hp; exact ⟨_, _, rfl, rfl, q.here (.int _)⟩)
    | cases hp
theorem bin_mul : OpR X (binaryOp .Mult) (rX2 X.K mulP) := by
  refine imp2 (op_mul.or (op_rep.or (op_repT.or (op_rep1.or op_rep0)))) fun x y H Q h => ?_
  obtain ⟨r, d, e, p, hx, hy, ht, hp, q⟩ := h
  cases d with
  | int i =>
    cases e with
    | int j =>
      cases hx.int; cases hy.int
      simp only [mulP] at hp
      split at hp
      · rename_i hz
        cases hp
        refine .inl ⟨i, j, rfl, rfl, ?_, q.here (.int _)⟩
        rcases hz with hz | hz
        · exact .inl (natAbs_iff hz)
        · exact .inr (natAbs_iff hz)
      · cases hp
    | _ => cases hp
  | list ds =>
    cases e with
    | int k =>
      cases hy.int
      obtain ⟨a, ys, rfl, h1, h2⟩ := hx.list
      simp only [mulP] at hp
      split at hp
      · rename_i hz
        cases hp
        exact .inr (.inl ⟨a, k, ys, rfl, rfl, h1, hz.1, hz.2.1, by rw [h2.length]; exact hz.2.2, q.lst ht (h2.rep _)⟩)
      · cases hp
    | _ => cases hp
  | tuple ds =>
    cases e with
    | int k =>
      cases hy.int
      obtain ⟨a, ys, rfl, h1, h2⟩ := hx.tuple
      simp only [mulP] at hp
      split at hp
      · rename_i hz
        cases hp
        have hne : ys ≠ [] := fun z => hz.1 (by
          subst z
          exact List.eq_nil_of_length_eq_zero h2.length.symm)
        by_cases h10 : k = 0
        · subst h10
          exact .inr (.inr (.inr (.inr ⟨a, ys, rfl, rfl, h1.sq, hne, q.tup ht .nil⟩)))
        · by_cases h11 : k = 1
          · subst h11
            refine .inr (.inr (.inr (.inl ⟨a, ys, rfl, rfl, h1.sq, q.here ?_⟩)))
            have e : (List.replicate (Int.toNat 1) ds).flatten = ds := by simp
            rw [e]
            exact .tup h1 h2
          · exact .inr (.inr (.inl ⟨a, k, ys, rfl, rfl, h1.sq, hne, by omega, hz.2.2.1, by rw [h2.length]; exact hz.2.2.2, q.tup ht (h2.rep _)⟩))
      · cases hp
    | _ => cases hp
  | _ => cases hp
theorem bin_fdiv : OpR X (binaryOp .FloorDiv) (rX2 X.K fdivP) := by
  refine imp2 op_fdivW fun x y H Q h => ?_
  obtain ⟨r, d, e, p, hx, hy, ht, hp, q⟩ := h
  cases d <;> cases e <;> first
    | (cases hx.int; cases hy.int
       simp only [fdivP] at hp
       split at hp
       · rename_i hz
         cases hp
         exact ⟨_, _, rfl, rfl, hz, q.here (.int _)⟩
       · cases hp)
    | cases hp
theorem bin_mod : OpR X (binaryOp .Mod) (rX2 X.K modP) := by
  refine imp2 op_mod fun x y H Q h => ?_
  obtain ⟨r, d, e, p, hx, hy, ht, hp, q⟩ := h
  cases d <;> cases e <;> first
    | (cases hx.int; cases hy.int
       simp only [modP] at hp
       split at hp
       · rename_i hz
         cases hp
         exact ⟨_, _, rfl, rfl, hz, q.here (.int _)⟩
       · cases hp)
    | cases hp
theorem bin_pow : OpR X (binaryOp .Pow) (rX2 X.K powP) := by
  refine imp2 op_powX fun x y H Q h => ?_
  obtain ⟨r, d, e, p, hx, hy, ht, hp, q⟩ := h
  cases d <;> cases e <;> first
    | (cases hx.int; cases hy.int
       simp only [powP] at hp
       split at hp
       · rename_i hz
         cases hp
         exact ⟨_, _, rfl, rfl, hz, q.here (.int _)⟩
       · cases hp)
    | cases hp
theorem bin_ok (op : Operator) : OpR X (binaryOp op) (rX2 X.K (binP op)) := by
  cases op with
  | Add => exact bin_add
  | Sub => exact bin_sub
  | Mult => exact bin_mul
  | FloorDiv => exact bin_fdiv
  | Mod => exact bin_mod
  | Pow => exact bin_pow
  | _ => exact fun pins s σ H x y v u Q I rx ry ⟨_, _, _, _, _, _, _, hp, _⟩ => by cases hp
end
end Mi

/-! Mi: comparisons, truth, places, slices, lengths. -/
namespace Mi
open PySem PySem.Spec PyProof.Rows L2

def scalP (d e : PD) : Bool := match plainV d, plainV e with
  | some x, some y => scal x y
  | _, _ => false
def eqOk (d e : PD) : Bool := scalP d e || (SeqAt.shaped d && SeqAt.shaped e)
/-- lists of unlike lengths; a tuple and an empty one -/
def lenNe : PD → PD → Bool
  | .list xs, .list ys => xs.length != ys.length
  | .tuple xs, .tuple ys => xs.length != ys.length && (xs.isEmpty || ys.isEmpty)
  | _, _ => false
def eqP (d e : PD) : Option PD := if eqOk d e then some (.bool (PyData.eqv d e)) else if lenNe d e then some (.bool false) else none
def neP (d e : PD) : Option PD := if eqOk d e then some (.bool (!PyData.eqv d e)) else if lenNe d e then some (.bool true) else none
theorem len_of {K : Frg} {r : Rho} {H : Hp} {Q : VK} {x y : V} {d e : PD} {b : Bool} (hx : Vw K r H x d) (hy : Vw K r H y e) (h : lenNe d e = true) (q : Q (.bl b) H) : rLen K b x y H Q := by
  unfold lenNe at h
  split at h
  · obtain ⟨a, xs, rfl, h1, h2⟩ := hx.list
    obtain ⟨a', ys, rfl, h1', h2'⟩ := hy.list
    exact ⟨a, a', xs, ys, rfl, rfl, .inl ⟨h1, h1', by rw [h2.length, h2'.length]; simpa using h⟩, q⟩
  · obtain ⟨a, xs, rfl, h1, h2⟩ := hx.tuple
    obtain ⟨a', ys, rfl, h1', h2'⟩ := hy.tuple
    rw [Bool.and_eq_true] at h
    refine ⟨a, a', xs, ys, rfl, rfl, .inr ⟨h1.sq, h1'.sq, by rw [h2.length, h2'.length]; simpa using h.1, ?_⟩, q⟩
    have h3 := h.2
    rw [Bool.or_eq_true, List.isEmpty_iff, List.isEmpty_iff] at h3
    rcases h3 with h3 | h3
    · left; subst h3; exact List.eq_nil_of_length_eq_zero h2.length
    · right; subst h3; exact List.eq_nil_of_length_eq_zero h2'.length
  · cases h
theorem scal_eqv {d e : PD} {x y : V} (h1 : plainV d = some x) (h2 : plainV e = some y) (h : scal x y = true) : decide (x = y) = PyData.eqv d e := by
  cases d <;> cases e <;> (try (cases h1; done)) <;> (try (cases h2; done)) <;>
    (cases h1; cases h2; first | rfl | (cases h; done) | (simp [PyData.eqv]; done) | (simp [PyData.eqv]; rw [Bool.eq_iff_iff]; simp; done))
def ltP : PD → PD → Option PD
  | .int i, .int j => some (.bool (decide (i < j)))
  | .str x, .str y => some (.bool (decide (x.cps.toList < y.cps.toList)))
  | _, _ => none
def leP : PD → PD → Option PD
  | .int i, .int j => some (.bool (decide (i ≤ j)))
  | .str x, .str y => some (.bool (!decide (y.cps.toList < x.cps.toList)))
  | _, _ => none
def gtP (d e : PD) : Option PD := ltP e d
def geP (d e : PD) : Option PD := leP e d
/-- a key of a dict -/
def keyP : PD → Option Key
  | .int i => some (.inl i)
  | .str x => some (.inr x)
  | _ => none
def lookP (k : PD) : List (PD × PD) → Option PD
  | [] => none
  | (j, d) :: r => if PyData.eqv j k then some d else lookP k r
def flatP (d : PD) : Bool := match plainV d with
  | some _ => true
  | none => false
def memP (d : PD) (ys : List PD) : Bool := ys.any fun y => PyData.eqv y d
def inP : PD → PD → Option Bool
  | .str x, .str z => match x.cps.toList with
    | [c] => some (decide (c ∈ z.cps.toList))
    | _ => none
  | d, .list ys => if flatP d && ys.all flatP then some (memP d ys) else if SeqAt.shaped d && SeqAt.shaped (.list ys) then some (memP d ys) else none
  | d, .tuple ys => if flatP d && ys.all flatP then some (memP d ys) else none
  | d, .dict kvs => if exB kvs then none else match keyP d with
    | some _ => some (lookP d kvs).isSome
    | none => none
  | _, _ => none
def isP : PD → PD → Option Bool
  | d, .none => some (match d with | .none => true | _ => false)
  | .bool a, .bool b => some (decide (a = b))
  | _, _ => none
def cmpP : CmpOp → PD → PD → Option PD
  | .Eq => eqP
  | .NotEq => neP
  | .Lt => ltP
  | .LtE => leP
  | .Gt => gtP
  | .GtE => geP
  | .In => fun d e => (inP d e).map .bool
  | .NotIn => fun d e => (inP d e).map fun b => .bool (!b)
  | .Is => fun d e => (isP d e).map .bool
  | .IsNot => fun d e => (isP d e).map fun b => .bool (!b)

section
variable {K : Frg} {r : Rho} {H : Hp}
theorem plainV_rp {d : PD} {v w : V} (h : RP K r H v d) (e : plainV d = some w) : v = w := (Vx.plain (.inl h) e)
theorem flatV_of {d : PD} {w : V} (e : plainV d = some w) : flatV w = true := by cases d <;> cases e <;> rfl
theorem eqV_of {d e : PD} {x y : V} (h1 : plainV d = some x) (h2 : plainV e = some y) : eqV x y = PyData.eqv d e := by
  cases d <;> cases e <;> (try (cases h1; done)) <;> (try (cases h2; done)) <;>
    (cases h1; cases h2; first | rfl | (simp [eqV, PyData.eqv]; done))
theorem flatP_some {d : PD} (h : flatP d = true) : ∃ w, plainV d = some w := by
  unfold flatP at h
  cases e : plainV d with
  | none => rw [e] at h; cases h
  | some w => exact ⟨w, rfl⟩
theorem flat_all : ∀ {ds : List PD} {vs : List V}, RPs K r H vs ds → ds.all flatP = true → vs.all flatV = true
  | [], _, h, _ => by cases h; rfl
  | d :: ds, _, h, f => by
    cases h with
    | cons h1 h2 =>
      rw [List.all_cons, Bool.and_eq_true] at f
      obtain ⟨w, e⟩ := flatP_some f.1
      rw [List.all_cons, plainV_rp h1 e, flatV_of e, flat_all h2 f.2]
      rfl
theorem inV_of {d : PD} {x : V} (e : plainV d = some x) : ∀ {ds : List PD} {vs : List V}, RPs K r H vs ds → ds.all flatP = true → inV x vs = memP d ds
  | [], _, h, _ => by cases h; rfl
  | c :: ds, _, h, f => by
    cases h with
    | cons h1 h2 =>
      rw [List.all_cons, Bool.and_eq_true] at f
      obtain ⟨w, q⟩ := flatP_some f.1
      have ih := inV_of e h2 f.2
      unfold inV memP at ih ⊢
      rw [List.any_cons, List.any_cons, ih, plainV_rp h1 q, eqV_of q e]
theorem keyP_plain {d : PD} {k : Key} (e : keyP d = some k) : plainV d = some (kV k) := by cases d <;> cases e <;> rfl
theorem keyP_kP (k : Key) : keyP (kP k) = some k := by cases k <;> rfl
theorem eqv_key {d : PD} {k j : Key} (e : keyP d = some k) : PyData.eqv (kP j) d = decide (j = k) := by
  cases d <;> cases e <;> cases j <;> simp [kP, PyData.eqv] <;> (try (rw [Bool.eq_iff_iff]; simp))
theorem look_of {d : PD} {k : Key} (e : keyP d = some k) : ∀ {ds : List (PD × PD)} {kvs : List (Key × V)}, RPk K r H kvs ds →
    (valV kvs k = none ∧ lookP d ds = none) ∨ ∃ v c, valV kvs k = some v ∧ lookP d ds = some c ∧ RP K r H v c
  | [], _, h => by cases h; exact .inl ⟨rfl, rfl⟩
  | (j, c) :: ds, _, h => by
    cases h with
    | cons h1 h2 =>
      rename_i j v kvs
      by_cases z : j = k
      · subst z
        refine .inr ⟨v, c, ?_, ?_, h1⟩
        · simp [valV]
        · simp [lookP, eqv_key e]
      · have z1 : valV ((j, v) :: kvs) k = valV kvs k := by simp [valV, z]
        have z2 : lookP d ((kP j, c) :: ds) = lookP d ds := by simp [lookP, eqv_key e, z]
        rw [z1, z2]
        exact look_of e h2
theorem look_isSome {d : PD} {k : Key} (e : keyP d = some k) {ds : List (PD × PD)} {kvs : List (Key × V)} (h : RPk K r H kvs ds) : (valV kvs k).isSome = (lookP d ds).isSome := by
  rcases look_of e h with ⟨a, b⟩ | ⟨v, c, a, b, _⟩
  · rw [a, b]; rfl
  · rw [a, b]; rfl
end
section
variable {X : Cx}
theorem op_inDct (hu : X.A.units + 1 < cLine) : OpR X (compareOp .In) (fun y x H Q => ∃ a o, x = .ref a ∧ DGet H a y o ∧ Q (.bl o.isSome) H) := by
  intro pins s σ H y x iv u Q I ry rx h
  obtain ⟨a, ov, rfl, g, q⟩ := h
  cases rx
  exact d_in hu I g ry fun s3 I3 => ⟨.bl ov.isSome, H, I3, rfl, q⟩
theorem op_ninDct (hu : X.A.units + 1 < cLine) : OpR X (compareOp .NotIn) (fun y x H Q => ∃ a o, x = .ref a ∧ DGet H a y o ∧ Q (.bl (!o.isSome)) H) := by
  intro pins s σ H y x iv u Q I ry rx h
  obtain ⟨a, ov, rfl, g, q⟩ := h
  cases rx
  exact d_notIn hu I g ry fun s3 I3 => ⟨.bl (!ov.isSome), H, I3, rfl, q⟩
theorem cmp_eq (hu : X.A.units + 64 < cLine) : OpR X (compareOp .Eq) (rW2 X.K eqP) := by
  refine imp2 (op_eq.or ((op_eqD hu).or (op_eqLen (by omega)))) fun x y H Q h => ?_
  obtain ⟨r, d, e, p, hx, hy, ht, hp, q⟩ := h
  unfold eqP at hp
  split at hp
  · rename_i hz
    cases hp
    unfold eqOk scalP at hz
    cases h1 : plainV d with
    | some v =>
      cases h2 : plainV e with
      | some w =>
        cases h3 : scal v w with
        | true =>
          cases hx.plain h1; cases hy.plain h2
          exact .inl ⟨h3, by rw [scal_eqv h1 h2 h3]; exact q.here (.bl _)⟩
        | false =>
          simp only [h1, h2, h3, Bool.false_or, Bool.and_eq_true] at hz
          exact .inr (.inl ⟨d, e, hx.dp (SeqAt.canLay_of_shaped hz.1), hy.dp (SeqAt.canLay_of_shaped hz.2), hz.1, hz.2, q.here (.bl _)⟩)
      | none =>
        simp only [h1, h2, Bool.false_or, Bool.and_eq_true] at hz
        exact .inr (.inl ⟨d, e, hx.dp (SeqAt.canLay_of_shaped hz.1), hy.dp (SeqAt.canLay_of_shaped hz.2), hz.1, hz.2, q.here (.bl _)⟩)
    | none =>
      simp only [h1, Bool.false_or, Bool.and_eq_true] at hz
      exact .inr (.inl ⟨d, e, hx.dp (SeqAt.canLay_of_shaped hz.1), hy.dp (SeqAt.canLay_of_shaped hz.2), hz.1, hz.2, q.here (.bl _)⟩)
  · split at hp
    · rename_i hz
      cases hp
      exact .inr (.inr (len_of hx hy hz (q.here (.bl _))))
    · cases hp
theorem cmp_ne (hu : X.A.units + 64 < cLine) : OpR X (compareOp .NotEq) (rW2 X.K neP) := by
  refine imp2 (op_ne.or ((op_neD hu).or (op_neLen (by omega)))) fun x y H Q h => ?_
  obtain ⟨r, d, e, p, hx, hy, ht, hp, q⟩ := h
  unfold neP at hp
  split at hp
  · rename_i hz
    cases hp
    unfold eqOk scalP at hz
    cases h1 : plainV d with
    | some v =>
      cases h2 : plainV e with
      | some w =>
        cases h3 : scal v w with
        | true =>
          cases hx.plain h1; cases hy.plain h2
          exact .inl ⟨h3, by rw [scal_eqv h1 h2 h3]; exact q.here (.bl _)⟩
        | false =>
          simp only [h1, h2, h3, Bool.false_or, Bool.and_eq_true] at hz
          exact .inr (.inl ⟨d, e, hx.dp (SeqAt.canLay_of_shaped hz.1), hy.dp (SeqAt.canLay_of_shaped hz.2), hz.1, hz.2, q.here (.bl _)⟩)
      | none =>
        simp only [h1, h2, Bool.false_or, Bool.and_eq_true] at hz
        exact .inr (.inl ⟨d, e, hx.dp (SeqAt.canLay_of_shaped hz.1), hy.dp (SeqAt.canLay_of_shaped hz.2), hz.1, hz.2, q.here (.bl _)⟩)
    | none =>
      simp only [h1, Bool.false_or, Bool.and_eq_true] at hz
      exact .inr (.inl ⟨d, e, hx.dp (SeqAt.canLay_of_shaped hz.1), hy.dp (SeqAt.canLay_of_shaped hz.2), hz.1, hz.2, q.here (.bl _)⟩)
  · split at hp
    · rename_i hz
      cases hp
      exact .inr (.inr (len_of hx hy hz (q.here (.bl _))))
    · cases hp
theorem cmp_lt : OpR X (compareOp .Lt) (rW2 X.K ltP) := by
  refine imp2 (op_lt.or op_lt_str) fun x y H Q h => ?_
  obtain ⟨r, d, e, p, hx, hy, ht, hp, q⟩ := h
  cases d <;> cases e <;> first
    | (cases hx.int; cases hy.int; cases hp; exact .inl ⟨_, _, rfl, rfl, q.here (.bl _)⟩)
    | (cases hx.str; cases hy.str; cases hp; exact .inr ⟨_, _, rfl, rfl, q.here (.bl _)⟩)
    | cases hp
theorem cmp_le : OpR X (compareOp .LtE) (rW2 X.K leP) := by
  refine imp2 (op_le.or op_le_str) fun x y H Q h => ?_
  obtain ⟨r, d, e, p, hx, hy, ht, hp, q⟩ := h
  cases d <;> cases e <;> first
    | (cases hx.int; cases hy.int; cases hp; exact .inl ⟨_, _, rfl, rfl, q.here (.bl _)⟩)
    | (cases hx.str; cases hy.str; cases hp; exact .inr ⟨_, _, rfl, rfl, q.here (.bl _)⟩)
    | cases hp
theorem cmp_gt : OpR X (compareOp .Gt) (rW2 X.K gtP) := by
  refine imp2 (op_gt.or op_gt_str) fun x y H Q h => ?_
  obtain ⟨r, d, e, p, hx, hy, ht, hp, q⟩ := h
  cases d <;> cases e <;> first
    | (cases hx.int; cases hy.int; cases hp; exact .inl ⟨_, _, rfl, rfl, q.here (.bl _)⟩)
    | (cases hx.str; cases hy.str; cases hp; exact .inr ⟨_, _, rfl, rfl, q.here (.bl _)⟩)
    | cases hp
theorem cmp_ge : OpR X (compareOp .GtE) (rW2 X.K geP) := by
  refine imp2 (op_ge.or op_ge_str) fun x y H Q h => ?_
  obtain ⟨r, d, e, p, hx, hy, ht, hp, q⟩ := h
  cases d <;> cases e <;> first
    | (cases hx.int; cases hy.int; cases hp; exact .inl ⟨_, _, rfl, rfl, q.here (.bl _)⟩)
    | (cases hx.str; cases hy.str; cases hp; exact .inr ⟨_, _, rfl, rfl, q.here (.bl _)⟩)
    | cases hp
/-- what an answer of «in» rests on -/
def InBy (K : Frg) (x y : V) (H : Hp) (b : Bool) : Prop :=
  (∃ (c : Nat) (z : Str), x = .str ⟨#[c]⟩ ∧ y = .str z ∧ b = decide (c ∈ z.cps.toList)) ∨
  (∃ p xs, y = .ref p ∧ (SqL K H p xs ∨ SqT K H p xs) ∧ flatV x = true ∧ xs.all flatV = true ∧ b = inV x xs) ∨
  (∃ d ds, Dp K H x d ∧ Dp K H y (.list ds) ∧ SeqAt.shaped d = true ∧ SeqAt.shaped (.list ds) = true ∧ b = (ds.any fun z => PyData.eqv z d)) ∨
  (∃ a o, y = .ref a ∧ DGet H a x o ∧ b = o.isSome)
theorem in_by {K : Frg} {r : Rho} {H : Hp} {x y : V} {d e : PD} {b : Bool} (hx : Vw K r H x d) (hy : Vw K r H y e) (h : inP d e = some b) : InBy K x y H b := by
  cases e with
  | str z =>
    cases d with
    | str w =>
      cases hx.str; cases hy.str
      simp only [inP] at h
      split at h
      · rename_i c hc
        cases h
        refine .inl ⟨c, z, ?_, rfl, rfl⟩
        have : w = ⟨#[c]⟩ := by
          cases w with
          | mk cps =>
            have : cps = #[c] := by
              apply Array.toList_inj.mp
              exact hc
            rw [this]
        rw [this]
      · cases h
    | _ => cases h
  | list ys =>
    obtain ⟨a, vs, rfl, h1, h2⟩ := hy.list
    have h' : (if flatP d && ys.all flatP then some (memP d ys) else if SeqAt.shaped d && SeqAt.shaped (.list ys) then some (memP d ys) else none) = some b := by
      cases d <;> exact h
    split at h'
    · rename_i hz
      cases h'
      rw [Bool.and_eq_true] at hz
      obtain ⟨w, q⟩ := flatP_some hz.1
      cases hx.plain q
      exact .inr (.inl ⟨a, vs, rfl, .inl h1, flatV_of q, flat_all h2 hz.2, (inV_of q h2 hz.2).symm⟩)
    · split at h'
      · rename_i hz
        cases h'
        rw [Bool.and_eq_true] at hz
        exact .inr (.inr (.inl ⟨d, ys, hx.dp (SeqAt.canLay_of_shaped hz.1), hy.dp (SeqAt.canLay_of_shaped hz.2), hz.1, hz.2, rfl⟩))
      · cases h'
  | tuple ys =>
    obtain ⟨a, vs, rfl, h1, h2⟩ := hy.tuple
    have h' : (if flatP d && ys.all flatP then some (memP d ys) else none) = some b := by
      cases d <;> exact h
    split at h'
    · rename_i hz
      cases h'
      rw [Bool.and_eq_true] at hz
      obtain ⟨w, q⟩ := flatP_some hz.1
      cases hx.plain q
      exact .inr (.inl ⟨a, vs, rfl, .inr h1.sq, flatV_of q, flat_all h2 hz.2, (inV_of q h2 hz.2).symm⟩)
    · cases h'
  | dict kvs =>
    have h0 : (if exB kvs then none else match keyP d with | some _ => some (lookP d kvs).isSome | none => none) = some b := by
      cases d <;> exact h
    have hxb : exB kvs = false := by
      cases q : exB kvs with
      | false => rfl
      | true => rw [q] at h0; cases h0
    obtain ⟨a, vs, rfl, h1, h2⟩ := hy.dict hxb
    have h' : (match keyP d with | some _ => some (lookP d kvs).isSome | none => none) = some b := by
      rw [hxb] at h0
      exact h0
    cases hk : keyP d with
    | none => rw [hk] at h'; cases h'
    | some k =>
      rw [hk] at h'
      cases h'
      cases hx.plain (keyP_plain hk)
      exact .inr (.inr (.inr ⟨a, _, rfl, .inl ⟨vs, k, h1, rfl, rfl⟩, (look_isSome hk h2).symm⟩))
  | _ => cases d <;> cases h
theorem cmp_in (hu : X.A.units + 65 < cLine) : OpR X (compareOp .In) (rW2 X.K fun d e => (inP d e).map .bool) := by
  refine imp2 (op_in_sign.or (op_in_seq.or ((op_inD hu).or (op_inDct (by omega))))) fun x y H Q h => ?_
  obtain ⟨r, d, e, p, hx, hy, ht, hp, q⟩ := h
  dsimp only at hp
  cases hb : inP d e with
  | none => rw [hb] at hp; cases hp
  | some b =>
    rw [hb] at hp
    cases hp
    have q' := q.here (.bl b)
    rcases in_by hx hy hb with ⟨c, z, h1, h2, h3⟩ | ⟨p, xs, h1, h2, h3, h4, h5⟩ | ⟨d', ds, h1, h2, h3, h4, h5⟩ | ⟨a, o, h1, h2, h3⟩
    · subst h3; exact .inl ⟨c, z, h1, h2, q'⟩
    · subst h5; exact .inr (.inl ⟨p, xs, h1, h2, h3, h4, q'⟩)
    · subst h5; exact .inr (.inr (.inl ⟨d', ds, h1, h2, h3, h4, q'⟩))
    · subst h3; exact .inr (.inr (.inr ⟨a, o, h1, h2, q'⟩))
theorem cmp_nin (hu : X.A.units + 65 < cLine) : OpR X (compareOp .NotIn) (rW2 X.K fun d e => (inP d e).map fun b => .bool (!b)) := by
  refine imp2 (op_notIn_sign.or (op_notIn_seq.or ((op_notInD hu).or (op_ninDct (by omega))))) fun x y H Q h => ?_
  obtain ⟨r, d, e, p, hx, hy, ht, hp, q⟩ := h
  dsimp only at hp
  cases hb : inP d e with
  | none => rw [hb] at hp; cases hp
  | some b =>
    rw [hb] at hp
    cases hp
    have q' := q.here (.bl (!b))
    rcases in_by hx hy hb with ⟨c, z, h1, h2, h3⟩ | ⟨p, xs, h1, h2, h3, h4, h5⟩ | ⟨d', ds, h1, h2, h3, h4, h5⟩ | ⟨a, o, h1, h2, h3⟩
    · subst h3; exact .inl ⟨c, z, h1, h2, q'⟩
    · subst h5; exact .inr (.inl ⟨p, xs, h1, h2, h3, h4, q'⟩)
    · subst h5; exact .inr (.inr (.inl ⟨d', ds, h1, h2, h3, h4, q'⟩))
    · subst h3; exact .inr (.inr (.inr ⟨a, o, h1, h2, q'⟩))
theorem is_by {K : Frg} {r : Rho} {H : Hp} {x y : V} {d e : PD} {b : Bool} (hx : Vw K r H x d) (hy : Vw K r H y e) (h : isP d e = some b) : (y = .non ∧ b = decide (x = .non)) ∨ ∃ u w : Bool, x = .bl u ∧ y = .bl w ∧ b = decide (u = w) := by
  cases e with
  | none =>
    cases hy.non
    refine .inl ⟨rfl, ?_⟩
    cases d with
    | none => cases hx.non; cases h; rfl
    | bool c => cases hx.bool; cases h; rfl
    | int c => cases hx.int; cases h; rfl
    | str c => cases hx.str; cases h; rfl
    | list c => obtain ⟨a, vs, rfl, _⟩ := hx.list; cases h; rfl
    | tuple c => obtain ⟨a, vs, rfl, _⟩ := hx.tuple; cases h; rfl
    | dict c => obtain ⟨a, rfl⟩ := hx.dictR; cases h; rfl
  | bool w =>
    cases d with
    | bool u => cases hx.bool; cases hy.bool; cases h; exact .inr ⟨u, w, rfl, rfl, rfl⟩
    | _ => cases h
  | _ => cases d <;> cases h
theorem cmp_is : OpR X (compareOp .Is) (rW2 X.K fun d e => (isP d e).map .bool) := by
  refine imp2 (op_isN.or op_isBl) fun x y H Q h => ?_
  obtain ⟨r, d, e, p, hx, hy, ht, hp, q⟩ := h
  dsimp only at hp
  cases hb : isP d e with
  | none => rw [hb] at hp; cases hp
  | some b =>
    rw [hb] at hp
    cases hp
    rcases is_by hx hy hb with ⟨h1, h2⟩ | ⟨u, w, h1, h2, h3⟩
    · subst h2; exact .inl ⟨h1, q.here (.bl _)⟩
    · subst h3; exact .inr ⟨u, w, h1, h2, q.here (.bl _)⟩
theorem cmp_isn : OpR X (compareOp .IsNot) (rW2 X.K fun d e => (isP d e).map fun b => .bool (!b)) := by
  refine imp2 (op_notN.or op_notBl) fun x y H Q h => ?_
  obtain ⟨r, d, e, p, hx, hy, ht, hp, q⟩ := h
  dsimp only at hp
  cases hb : isP d e with
  | none => rw [hb] at hp; cases hp
  | some b =>
    rw [hb] at hp
    cases hp
    rcases is_by hx hy hb with ⟨h1, h2⟩ | ⟨u, w, h1, h2, h3⟩
    · subst h2; exact .inl ⟨h1, q.here (.bl _)⟩
    · subst h3; exact .inr ⟨u, w, h1, h2, q.here (.bl _)⟩
theorem cmp_ok (op : CmpOp) (hu : X.A.units + 65 < cLine) : OpR X (compareOp op) (rW2 X.K (cmpP op)) := by
  cases op with
  | Eq => exact cmp_eq (by omega)
  | NotEq => exact cmp_ne (by omega)
  | Lt => exact cmp_lt
  | LtE => exact cmp_le
  | Gt => exact cmp_gt
  | GtE => exact cmp_ge
  | In => exact cmp_in hu
  | NotIn => exact cmp_nin hu
  | Is => exact cmp_is
  | IsNot => exact cmp_isn
end
end Mi

/-! Mi: truth, places, slices, built-in calls. -/
namespace Mi
open PySem PySem.Spec PyProof.Rows L2

def truP : PD → Option Bool
  | .none => some false
  | .bool b => some b
  | .int i => some (i != 0)
  | .str y => if y.length ≤ sizeLine then some ((y.length : Int) != 0) else none
  | .list xs => some (!xs.isEmpty)
  | .tuple xs => some (!xs.isEmpty)
  | .dict _ => none
def ixP : PD → PD → Option PD
  | .list xs, .int i => atI xs i
  | .tuple xs, .int i => atI xs i
  | .str z, .int i => if z.length ≤ sizeLine then (atI z.cps.toList i).map fun c => .str ⟨#[c]⟩ else none
  | .dict kvs, k => if exB kvs then none else match keyP k with
    | some _ => lookP k kvs
    | none => none
  | _, _ => none
def cutL {α : Type} (xs : List α) (lo hi : Option Int) : List α := (xs.drop (HT.sIx xs.length 0 lo)).take (HT.sIx xs.length xs.length hi - HT.sIx xs.length 0 lo)
def slP : PD → Option Int → Option Int → Option PD
  | .list ds, lo, hi => some (.list (cutL ds lo hi))
  | .tuple ds, lo, hi => some (.tuple (cutL ds lo hi))
  | .str z, lo, hi => if z.length ≤ sizeLine then some (.str (cutS z lo hi)) else none
  | _, _, _ => none
section
variable {K : Frg} {r : Rho} {H : Hp}
theorem rps_empty {ds : List PD} {ys : List V} (h : RPs K r H ys ds) : ys.isEmpty = ds.isEmpty := by
  cases ds with
  | nil => cases h; rfl
  | cons d ds => cases h; rfl
theorem tru_by {x : V} {d : PD} {b : Bool} (hx : Vw K r H x d) (h : truP d = some b) : TruV K x H b := by
  cases d with
  | none => cases hx.non; cases h; rfl
  | bool c => cases hx.bool; cases h; rfl
  | int c => cases hx.int; cases h; rfl
  | str c =>
    cases hx.str
    simp only [truP] at h
    split at h
    · rename_i hz
      cases h
      exact ⟨hz, rfl⟩
    · cases h
  | list c =>
    obtain ⟨a, vs, rfl, h1, h2⟩ := hx.list
    cases h
    exact .inl ⟨vs, h1, by rw [rps_empty h2]⟩
  | tuple c =>
    obtain ⟨a, vs, rfl, h1, h2⟩ := hx.tuple
    cases h
    exact .inr (.inl ⟨vs, h1.sq, by rw [rps_empty h2]⟩)
  | dict c => cases h
theorem RPs.at {ds : List PD} {ys : List V} (h : RPs K r H ys ds) {i : Int} {d : PD} (e : atI ds i = some d) : ∃ v, atI ys i = some v ∧ RP K r H v d := by
  unfold atI at e ⊢
  rw [h.length]
  cases q : ixN ds.length i with
  | none => rw [q] at e; cases e
  | some j =>
    rw [q] at e
    obtain ⟨v, h1, h2⟩ := h.get (i := j) (d := d) e
    exact ⟨v, h1, h2⟩
theorem RPs.cut {ds : List PD} {ys : List V} (h : RPs K r H ys ds) (lo hi : Option Int) : RPs K r H (cutV ys lo hi) (cutL ds lo hi) := by
  unfold cutV cutL
  rw [h.length]
  exact (h.drop _).take _
inductive Vws (K : Frg) (r : Rho) (H : Hp) : List V → List PD → Prop
  | nil : Vws K r H [] []
  | cons {v : V} {vs : List V} {d : PD} {ds : List PD} : Vw K r H v d → Vws K r H vs ds → Vws K r H (v :: vs) (d :: ds)
theorem Vws.one {vs : List V} {d : PD} (h : Vws K r H vs [d]) : ∃ v, vs = [v] ∧ Vw K r H v d := by
  cases h with
  | cons h1 h2 => cases h2; exact ⟨_, rfl, h1⟩
theorem Vws.two {vs : List V} {d e : PD} (h : Vws K r H vs [d, e]) : ∃ v w, vs = [v, w] ∧ Vw K r H v d ∧ Vw K r H w e := by
  cases h with
  | cons h1 h2 =>
    obtain ⟨w, rfl, h3⟩ := h2.one
    exact ⟨_, w, rfl, h1, h3⟩
end
section
variable {X : Cx}
theorem ix_dct (hu : X.A.units + 1 < cLine) : IxR X (fun x y H Q => ∃ a v, x = .ref a ∧ DGet H a y (some v) ∧ Q v H) := by
  intro value slice pins s σ H x y v u Q I rx ry h hs
  obtain ⟨a, z, rfl, g, q⟩ := h
  cases rx
  exact tail_any (dict_typeIs I g) PySem.F.slot_dict_getitem.lookup (d_getItem hu I g ry fun w' s3 I3 r => ⟨z, H, I3, r, q⟩) hs
theorem imp_ix {r r' : R2} (h : IxR X r) (i : ∀ x y H Q, r' x y H Q → r x y H Q) : IxR X r' := fun value slice pins s σ H x y v u Q I rx ry q hs =>
  h value slice pins s σ H x y v u Q I rx ry (i x y H Q q) hs
theorem ix_ok (hu : X.A.units + 1 < cLine) : IxR X (rW2 X.K ixP) := by
  refine imp_ix (ix_list.or (ix_tup.or (ix_str.or (ix_dct hu)))) fun x y H Q h => ?_
  obtain ⟨r, d, e, p, hx, hy, ht, hp, q⟩ := h
  cases d with
  | list ds =>
    cases e with
    | int i =>
      obtain ⟨a, vs, rfl, h1, h2⟩ := hx.list
      cases hy.int
      obtain ⟨v, h3, h4⟩ := h2.at (show atI ds i = some p from hp)
      exact .inl ⟨a, vs, i, v, rfl, rfl, h1, h3, q.here h4⟩
    | _ => cases hp
  | tuple ds =>
    cases e with
    | int i =>
      obtain ⟨a, vs, rfl, h1, h2⟩ := hx.tuple
      cases hy.int
      obtain ⟨v, h3, h4⟩ := h2.at (show atI ds i = some p from hp)
      exact .inr (.inl ⟨a, vs, i, v, rfl, rfl, h1.sq, h3, q.here h4⟩)
    | _ => cases hp
  | str z =>
    cases e with
    | int i =>
      cases hx.str; cases hy.int
      simp only [ixP] at hp
      split at hp
      · rename_i hz
        cases ha : atI z.cps.toList i with
        | none => rw [ha] at hp; cases hp
        | some c =>
          rw [ha] at hp
          cases hp
          exact .inr (.inr (.inl ⟨z, i, c, rfl, rfl, hz, ha, q.here (.str _)⟩))
      · cases hp
    | _ => cases hp
  | dict kvs =>
    have hp0 : (if exB kvs then none else match keyP e with | some _ => lookP e kvs | none => none) = some p := by cases e <;> exact hp
    have hxb : exB kvs = false := by
      cases q : exB kvs with
      | false => rfl
      | true => rw [q] at hp0; cases hp0
    obtain ⟨a, vs, rfl, h1, h2⟩ := hx.dict hxb
    have hp' : (match keyP e with | some _ => lookP e kvs | none => none) = some p := by
      rw [hxb] at hp0
      exact hp0
    cases hk : keyP e with
    | none => rw [hk] at hp'; cases hp'
    | some k =>
      rw [hk] at hp'
      dsimp only at hp'
      cases hy.plain (keyP_plain hk)
      rcases look_of hk h2 with ⟨_, z⟩ | ⟨v, c, z1, z2, z3⟩
      · rw [z] at hp'; cases hp'
      · rw [z2] at hp'
        cases hp'
        exact .inr (.inr (.inr ⟨a, v, rfl, .inl ⟨vs, k, h1, rfl, z1.symm⟩, q.here z3⟩))
  | _ => cases e <;> cases hp
/-- a[lo:hi] -/
def rSlW (K : Frg) : V → Option Int → Option Int → Hp → VK → Prop := fun x lo hi H Q => ∃ r d p, Vw K r H x d ∧ Trk r H ∧ slP d lo hi = some p ∧ Post K r H Q p
theorem sl_ok : SlR X (rSlW X.K) := by
  have base := (sl_list (X := X)).or ((sl_tupA (X := X)).or (sl_str (X := X)))
  intro pins s σ H x v vl vu lo hi sl Q I rx hs pl pu h
  refine base pins s σ H x v vl vu lo hi sl Q I rx hs pl pu ?_
  obtain ⟨r, d, p, hx, ht, hp, q⟩ := h
  cases d with
  | list ds =>
    obtain ⟨a, vs, rfl, h1, h2⟩ := hx.list
    cases hp
    exact .inl ⟨a, vs, rfl, h1, q.lst ht (h2.cut lo hi)⟩
  | tuple ds =>
    obtain ⟨a, vs, rfl, h1, h2⟩ := hx.tuple
    cases hp
    refine .inr (.inl ⟨a, vs, rfl, h1.sq, fun hw => ?_, fun _ => q.tup ht (h2.cut lo hi)⟩)
    have e : cutL ds lo hi = ds := by
      rw [h2.length] at hw
      unfold cutL
      rw [hw.1, hw.2]
      simp
    rw [e] at q
    exact q.here (.tup h1 h2)
  | str z =>
    cases hx.str
    simp only [slP] at hp
    split at hp
    · rename_i hz
      cases hp
      exact .inr (.inr ⟨z, rfl, hz, q.here (.str _)⟩)
    · cases hp
  | _ => cases hp

/-! ### calls of built-ins -/
def rCW (K : Frg) (g : List PD → Option PD) : List V → Hp → VK → Prop := fun vs H Q => ∃ r ds p, Vws K r H vs ds ∧ Trk r H ∧ g ds = some p ∧ Post K r H Q p
theorem imp_call {f : Value} {r r' : List V → Hp → VK → Prop} (h : CallR X f r) (i : ∀ vs H Q, r' vs H Q → r vs H Q) : CallR X f r' := fun pins s σ H xs us Q I rv q => h pins s σ H xs us Q I rv (i xs H Q q)
def lenP : List PD → Option PD
  | [.str z] => if z.length ≤ sizeLine then some (.int z.length) else none
  | [.list ds] => some (.int ds.length)
  | [.tuple ds] => some (.int ds.length)
  | _ => none
theorem len_ok : CallR X (.builtin "len") (rCW X.K lenP) := by
  refine imp_call (call_len_seq.or call_len_str) fun vs H Q h => ?_
  obtain ⟨r, ds, p, hv, ht, hp, q⟩ := h
  cases ds with
  | nil => cases hp
  | cons d ds =>
    cases ds with
    | cons _ _ => cases d <;> cases hp
    | nil =>
      obtain ⟨v, rfl, hx⟩ := hv.one
      cases d with
      | str z =>
        cases hx.str
        simp only [lenP] at hp
        split at hp
        · rename_i hz
          cases hp
          exact .inr ⟨z, rfl, hz, q.here (.int _)⟩
        · cases hp
      | list es =>
        obtain ⟨a, ys, rfl, h1, h2⟩ := hx.list
        cases hp
        exact .inl ⟨a, ys, rfl, .inl h1, by rw [h2.length]; exact q.here (.int _)⟩
      | tuple es =>
        obtain ⟨a, ys, rfl, h1, h2⟩ := hx.tuple
        cases hp
        exact .inl ⟨a, ys, rfl, .inr h1.sq, by rw [h2.length]; exact q.here (.int _)⟩
      | _ => cases hp
def absP : List PD → Option PD
  | [.int i] => some (.int (if i < 0 then -i else i))
  | _ => none
theorem abs_ok : CallR X (.builtin "abs") (rCW X.K absP) := by
  refine imp_call call_abs fun vs H Q h => ?_
  obtain ⟨r, ds, p, hv, ht, hp, q⟩ := h
  unfold absP at hp
  split at hp
  · obtain ⟨v, rfl, hx⟩ := hv.one
    cases hx.int
    cases hp
    exact ⟨_, rfl, q.here (.int _)⟩
  · cases hp
def intP : List PD → Option PD
  | [.int i] => some (.int i)
  | [.bool b] => some (.int (if b then 1 else 0))
  | _ => none
theorem int_ok : CallR X (.type "int") (rCW X.K intP) := by
  refine imp_call call_int1 fun vs H Q h => ?_
  obtain ⟨r, ds, p, hv, ht, hp, q⟩ := h
  unfold intP at hp
  split at hp
  · obtain ⟨v, rfl, hx⟩ := hv.one
    cases hx.int
    cases hp
    exact .inl ⟨_, rfl, q.here (.int _)⟩
  · obtain ⟨v, rfl, hx⟩ := hv.one
    cases hx.bool
    cases hp
    exact .inr ⟨_, rfl, q.here (.int _)⟩
  · cases hp
/-- the ints of a list -/
def intsP : List PD → Option (List Int)
  | [] => some []
  | .int i :: r => (intsP r).map (i :: ·)
  | _ => none
def boolsP : List PD → Option (List Bool)
  | [] => some []
  | .bool i :: r => (boolsP r).map (i :: ·)
  | _ => none
theorem rps_of_ints {K : Frg} {r : Rho} {H : Hp} : ∀ {ds : List PD} {ns : List Int} {ys : List V}, RPs K r H ys ds → intsP ds = some ns → ys = ns.map V.int
  | [], _, _, h, e => by cases h; cases e; rfl
  | d :: ds, ns, _, h, e => by
    cases h with
    | cons h1 h2 =>
      cases d <;> first
        | (cases e; done)
        | (cases h1
           simp only [intsP] at e
           cases q : intsP ds with
           | none => rw [q] at e; cases e
           | some ms =>
             rw [q] at e
             cases e
             rw [rps_of_ints h2 q]
             rfl)
theorem rps_of_bools {K : Frg} {r : Rho} {H : Hp} : ∀ {ds : List PD} {ns : List Bool} {ys : List V}, RPs K r H ys ds → boolsP ds = some ns → ys = ns.map V.bl
  | [], _, _, h, e => by cases h; cases e; rfl
  | d :: ds, ns, _, h, e => by
    cases h with
    | cons h1 h2 =>
      cases d <;> first
        | (cases e; done)
        | (cases h1
           simp only [boolsP] at e
           cases q : boolsP ds with
           | none => rw [q] at e; cases e
           | some ms =>
             rw [q] at e
             cases e
             rw [rps_of_bools h2 q]
             rfl)
def maxL : Int → List Int → Int
  | m, [] => m
  | m, n :: r => maxL (if n > m then n else m) r
def minL : Int → List Int → Int
  | m, [] => m
  | m, n :: r => minL (if n < m then n else m) r
theorem maxL_le : ∀ (m : Int) (l : List Int), m ≤ maxL m l ∧ ∀ y ∈ l, y ≤ maxL m l
  | m, [] => ⟨Int.le_refl _, fun _ h => by cases h⟩
  | m, n :: r => by
    obtain ⟨h1, h2⟩ := maxL_le (if n > m then n else m) r
    have h3 : m ≤ (if n > m then n else m) := by split <;> omega
    have h4 : n ≤ (if n > m then n else m) := by split <;> omega
    refine ⟨Int.le_trans h3 h1, fun y hy => ?_⟩
    rcases List.mem_cons.mp hy with rfl | hy
    · exact Int.le_trans h4 h1
    · exact h2 y hy
theorem maxL_mem : ∀ (m : Int) (l : List Int), maxL m l = m ∨ maxL m l ∈ l
  | m, [] => .inl rfl
  | m, n :: r => by
    show maxL (if n > m then n else m) r = m ∨ maxL (if n > m then n else m) r ∈ n :: r
    rcases maxL_mem (if n > m then n else m) r with h | h
    · rw [h]
      split
      · exact .inr List.mem_cons_self
      · exact .inl rfl
    · exact .inr (List.mem_cons_of_mem _ h)
theorem minL_le : ∀ (m : Int) (l : List Int), minL m l ≤ m ∧ ∀ y ∈ l, minL m l ≤ y
  | m, [] => ⟨Int.le_refl _, fun _ h => by cases h⟩
  | m, n :: r => by
    obtain ⟨h1, h2⟩ := minL_le (if n < m then n else m) r
    have h3 : (if n < m then n else m) ≤ m := by split <;> omega
    have h4 : (if n < m then n else m) ≤ n := by split <;> omega
    refine ⟨Int.le_trans h1 h3, fun y hy => ?_⟩
    rcases List.mem_cons.mp hy with rfl | hy
    · exact Int.le_trans h1 h4
    · exact h2 y hy
theorem minL_mem : ∀ (m : Int) (l : List Int), minL m l = m ∨ minL m l ∈ l
  | m, [] => .inl rfl
  | m, n :: r => by
    show minL (if n < m then n else m) r = m ∨ minL (if n < m then n else m) r ∈ n :: r
    rcases minL_mem (if n < m then n else m) r with h | h
    · rw [h]
      split
      · exact .inr List.mem_cons_self
      · exact .inl rfl
    · exact .inr (List.mem_cons_of_mem _ h)
def maxP : List PD → Option PD
  | [.int i, .int j] => some (.int (if j > i then j else i))
  | [.list ds] => match intsP ds with
    | some (n :: r) => some (.int (maxL n r))
    | _ => none
  | _ => none
def minP : List PD → Option PD
  | [.int i, .int j] => some (.int (if j < i then j else i))
  | [.list ds] => match intsP ds with
    | some (n :: r) => some (.int (minL n r))
    | _ => none
  | _ => none
theorem max_ok (hc : X.calm = true) : CallR X (.builtin "max") (rCW X.K maxP) := by
  refine imp_call ((call_max2 hc).or (cr_max hc)) fun vs H Q h => ?_
  obtain ⟨r, ds, p, hv, ht, hp, q⟩ := h
  unfold maxP at hp
  split at hp
  · obtain ⟨v, w, rfl, hx, hy⟩ := hv.two
    cases hx.int; cases hy.int
    cases hp
    exact .inl ⟨_, _, rfl, q.here (.int _)⟩
  · obtain ⟨v, rfl, hx⟩ := hv.one
    obtain ⟨a, ys, rfl, h1, h2⟩ := hx.list
    split at hp
    · rename_i n ns he
      cases hp
      have ey := rps_of_ints h2 he
      subst ey
      refine .inr ⟨a, n :: ns, rfl, h1, by simp, fun m hm hall => ?_⟩
      have e : m = maxL n ns := by
        obtain ⟨l1, l2⟩ := maxL_le n ns
        have hm1 : m ≤ maxL n ns := by
          rcases List.mem_cons.mp hm with rfl | hm
          · exact l1
          · exact l2 m hm
        have hm2 : maxL n ns ≤ m := by
          rcases maxL_mem n ns with z | z
          · rw [z]; exact hall n List.mem_cons_self
          · exact hall _ (List.mem_cons_of_mem _ z)
        omega
      subst e
      exact q.here (.int _)
    · cases hp
  · cases hp
theorem min_ok (hc : X.calm = true) : CallR X (.builtin "min") (rCW X.K minP) := by
  refine imp_call ((call_min2 hc).or (cr_min hc)) fun vs H Q h => ?_
  obtain ⟨r, ds, p, hv, ht, hp, q⟩ := h
  unfold minP at hp
  split at hp
  · obtain ⟨v, w, rfl, hx, hy⟩ := hv.two
    cases hx.int; cases hy.int
    cases hp
    exact .inl ⟨_, _, rfl, q.here (.int _)⟩
  · obtain ⟨v, rfl, hx⟩ := hv.one
    obtain ⟨a, ys, rfl, h1, h2⟩ := hx.list
    split at hp
    · rename_i n ns he
      cases hp
      have ey := rps_of_ints h2 he
      subst ey
      refine .inr ⟨a, n :: ns, rfl, h1, by simp, fun m hm hall => ?_⟩
      have e : m = minL n ns := by
        obtain ⟨l1, l2⟩ := minL_le n ns
        have hm1 : minL n ns ≤ m := by
          rcases List.mem_cons.mp hm with rfl | hm
          · exact l1
          · exact l2 m hm
        have hm2 : m ≤ minL n ns := by
          rcases minL_mem n ns with z | z
          · rw [z]; exact hall n List.mem_cons_self
          · exact hall _ (List.mem_cons_of_mem _ z)
        omega
      subst e
      exact q.here (.int _)
    · cases hp
  · cases hp
def sumP : List PD → Option PD
  | [.list ds] => (intsP ds).map fun ns => .int ns.sum
  | _ => none
def allP : List PD → Option PD
  | [.list ds] => (boolsP ds).map fun ns => .bool (ns.all id)
  | _ => none
def anyP : List PD → Option PD
  | [.list ds] => (boolsP ds).map fun ns => .bool (ns.any id)
  | _ => none
theorem sum_ok (hc : X.calm = true) : CallR X (.builtin "sum") (rCW X.K sumP) := by
  refine imp_call (cr_sum hc) fun vs H Q h => ?_
  obtain ⟨r, ds, p, hv, ht, hp, q⟩ := h
  unfold sumP at hp
  split at hp
  · rename_i es
    obtain ⟨v, rfl, hx⟩ := hv.one
    obtain ⟨a, ys, rfl, h1, h2⟩ := hx.list
    cases he : intsP es with
    | none => rw [he] at hp; cases hp
    | some ns =>
      rw [he] at hp
      cases hp
      have ey := rps_of_ints h2 he
      subst ey
      exact ⟨a, ns, rfl, h1, q.here (.int _)⟩
  · cases hp
theorem all_ok (hc : X.calm = true) : CallR X (.builtin "all") (rCW X.K allP) := by
  refine imp_call (cr_all hc) fun vs H Q h => ?_
  obtain ⟨r, ds, p, hv, ht, hp, q⟩ := h
  unfold allP at hp
  split at hp
  · rename_i es
    obtain ⟨v, rfl, hx⟩ := hv.one
    obtain ⟨a, ys, rfl, h1, h2⟩ := hx.list
    cases he : boolsP es with
    | none => rw [he] at hp; cases hp
    | some ns =>
      rw [he] at hp
      cases hp
      have ey := rps_of_bools h2 he
      subst ey
      exact ⟨a, ns, rfl, h1, q.here (.bl _)⟩
  · cases hp
theorem any_ok (hc : X.calm = true) : CallR X (.builtin "any") (rCW X.K anyP) := by
  refine imp_call (cr_any hc) fun vs H Q h => ?_
  obtain ⟨r, ds, p, hv, ht, hp, q⟩ := h
  unfold anyP at hp
  split at hp
  · rename_i es
    obtain ⟨v, rfl, hx⟩ := hv.one
    obtain ⟨a, ys, rfl, h1, h2⟩ := hx.list
    cases he : boolsP es with
    | none => rw [he] at hp; cases hp
    | some ns =>
      rw [he] at hp
      cases hp
      have ey := rps_of_bools h2 he
      subst ey
      exact ⟨a, ns, rfl, h1, q.here (.bl _)⟩
  · cases hp
def tupleP : List PD → Option PD
  | [.list ds] => some (.tuple ds)
  | [.tuple ds] => some (.tuple ds)
  | _ => none
theorem tuple_ok : CallR X (.type "tuple") (rCW X.K tupleP) := by
  refine imp_call call_tuple_of fun vs H Q h => ?_
  obtain ⟨r, ds, p, hv, ht, hp, q⟩ := h
  unfold tupleP at hp
  split at hp
  · obtain ⟨v, rfl, hx⟩ := hv.one
    obtain ⟨a, ys, rfl, h1, h2⟩ := hx.list
    cases hp
    exact ⟨a, ys, rfl, .inl ⟨h1, q.tup ht h2⟩⟩
  · obtain ⟨v, rfl, hx⟩ := hv.one
    obtain ⟨a, ys, rfl, h1, h2⟩ := hx.tuple
    cases hp
    exact ⟨a, ys, rfl, .inr ⟨h1.sq, q.here (.tup h1 h2)⟩⟩
  · cases hp
/-! ### repr -/
/-- a dict of plain values -/
def flatD : PD → Bool
  | .dict kvs => !exB kvs && kvs.all fun kv => flatP kv.2
  | _ => false
/-- a list of such dicts -/
def dictsL : PD → Bool
  | .list ds => !ds.isEmpty && ds.all flatD && decide ((PyData.list ds).depth ≤ 10)
  | _ => false
def reprP : List PD → Option PD
  | [d] => if (SeqAt.shaped d = true ∨ dictsL d = true) ∧ d.showable = true ∧ d.shown.length ≤ sizeLine then some (.str d.shown) else none
  | _ => none
section
variable {pins : List (Addr × Obj)} {σ : L2.St} {H : Hp} {s : Shared} {r : Rho}
theorem flat_reads {v : V} {u : Value} {d : PD} (h : RP X.K r H v d) (ru : RelV v u) (hf : flatP d = true) : Reads s.heap u d [] := by
  cases h with
  | non => cases ru; exact .none
  | bl b => cases ru; exact .bool b
  | int i => obtain ⟨t, rfl⟩ := ru; exact .int i t
  | str x => obtain ⟨t, rfl⟩ := ru; exact .str x t
  | lst => cases hf
  | tup => cases hf
  | dct => cases hf
  | xc0 => cases hf
  | xcv => cases hf
theorem pairs_read : ∀ {kvs : List (Key × V)} {vs : List (Key × Value)} {ds : List (PD × PD)}, RPk X.K r H kvs ds → KV kvs vs → ds.all (fun kv => flatP kv.2) = true → PyProof.V.PairsRead s.heap kP vs ds []
  | _, _, _, .nil, .nil, _ => .nil
  | _, (b1, b2) :: _, _, .cons h1 h2, .cons hk hr, hf => by
    rw [List.all_cons, Bool.and_eq_true] at hf
    have p := pairs_read h2 hr hf.2
    have q := flat_reads (X := X) (s := s) h1 hk.2 hf.1
    obtain ⟨e1, _⟩ := hk
    cases e1
    exact PyProof.V.PairsRead.cons (as := []) (bs := []) q p
theorem dict_reads {v : V} {u : Value} {d : PD} (I : Inv X pins σ H s) (h : RP X.K r H v d) (ru : RelV v u) (hf : flatD d = true) : ∃ a, Reads s.heap u d [a] ∧ a ≠ sysModules := by
  cases d with
  | dict kvs =>
    simp only [flatD, Bool.and_eq_true, Bool.not_eq_true'] at hf
    obtain ⟨a, ys, rfl, h1, h2⟩ := Vx.dict (.inl h) hf.1
    cases ru
    obtain ⟨_, hs, vs, hk, hd⟩ := dk_rd I.hok h1
    refine ⟨a, PyProof.V.reads_dictOf (knd := mixKind X.prog X.w) (enc := kP) (fun k key hi => ?_) hd (pairs_read h2 hk hf.2), beq_eq_false_iff_ne.mp hs⟩
    rcases keyIs_shape hi with ⟨i, t, rfl, rfl⟩ | ⟨x, t, rfl, rfl⟩
    · exact .int i t
    · exact .str x t
  | _ => cases hf
theorem dicts_reads (I : Inv X pins σ H s) : ∀ {vs : List V} {us : List Value} {ds : List PD}, RPs X.K r H vs ds → Vals vs us → ds.all flatD = true → ∃ as, ReadsAll s.heap us ds as ∧ sysModules ∉ as
  | _, _, _, .nil, .nil, _ => ⟨[], .nil, by simp⟩
  | _, _, _, .cons h1 h2, .cons r1 r2, hf => by
    rw [List.all_cons, Bool.and_eq_true] at hf
    obtain ⟨a, q1, n1⟩ := dict_reads I h1 r1 hf.1
    obtain ⟨as, q2, n2⟩ := dicts_reads I h2 r2 hf.2
    exact ⟨_, .cons q1 q2, by simpa using ⟨fun z => n1 z.symm, n2⟩⟩
theorem repr_dicts {a : Addr} {ys : List V} {ds : List PD} {Q : VK} (hu : X.A.units + 65 < cLine) (hg : X.A.guards = some []) (I : Inv X pins σ H s) (h1 : SqL X.K H a ys) (h2 : RPs X.K r H ys ds) (hd : dictsL (.list ds) = true) (hs : (PyData.list ds).showable = true) (hz : (PyData.list ds).shown.length ≤ sizeLine)
    (q : Q (.str (PyData.list ds).shown) H) : wpAny (model X.prog X.w) X.A (call (.builtin "repr") [.ref a]) (EP X pins σ Q) X.xe s := by
  simp only [dictsL, Bool.and_eq_true, decide_eq_true_eq] at hd
  obtain ⟨its, rv, ⟨o, n, ho, hc, _, hdt⟩, _⟩ := I.list h1
  obtain ⟨as, ra, nm⟩ := dicts_reads I h2 rv hd.1.2
  have hz' : (listText (PyData.shownAll ds)).length ≤ sizeLine := by simpa only [PyData.shown] using hz
  obtain ⟨bs, hb, hk⟩ := ReprAllK.of_readsAll (prog := X.prog) (w := X.w) ra (by simpa [PyData.showable] using hs) (fun _ => nm) (fun t ht => Nat.le_trans (listText_mem_le ht) hz')
  have rl : Reads s.heap (.ref a) (.list ds) (a :: as) := .list ho hc hdt (by simpa using ra)
  have hna : a ∉ bs := not_mem_of_deeper rl (by simp only [PyData.depth]; omega) hb
  have dp : PyData.depthAll ds + 1 ≤ 10 := by have := hd.2; simp only [PyData.depth] at this; omega
  refine call_repr_slot (by omega) ⟨o, ho, hc⟩ F.slot_list_repr.toG ?_
  cases its with
  | nil =>
    cases ra
    simp at hd
  | cons x l =>
    refine call_list_reprK ho hc hdt hna (by simpa using hk.length_eq) (fun i y e => hk.item i y (by simpa using e)) hg (fun b _ => Clear.nil b) (by show X.A.units + 1 + (PyData.depthAll ds + 1) < cLine; omega) (fun _ _ e => e) (fun h' u tk kp => ?_) hz'
    refine ⟨_, _, rfl, .str (PyData.list ds).shown, H, I.kept kp, ?_, q⟩
    exact ⟨u, by simp only [PyData.shown]⟩
end
theorem repr_ok (hu : X.A.units + 65 < cLine) (hg : X.A.guards = some []) : CallR X (.builtin "repr") (rCW X.K reprP) := by
  intro pins s σ H xs us Q I rv h
  obtain ⟨r, ds, p, hv, ht, hp, q⟩ := h
  unfold reprP at hp
  split at hp
  · rename_i d
    split at hp
    · rename_i hz
      obtain ⟨v, rfl, hx⟩ := hv.one
      cases hp
      obtain ⟨u, rfl, ru⟩ := rv.one
      have q' : Q (.str d.shown) H := q.here (.str _)
      have refs : ∀ a, SeqAt.shaped d = true → u = .ref a → v = .ref a → wpAny (model X.prog X.w) X.A (call (.builtin "repr") [u]) (EP X pins σ Q) X.xe s := by
        intro a hsh hu1 hv1
        subst hu1
        obtain ⟨as, rd⟩ := Dp.reads I d v (.ref a) (hx.dp (SeqAt.canLay_of_shaped hsh)) ru
        refine PySem.repr_of_reads' rd hz.2.1 (PyData.noDict_hsm (PyData.hasDict_of_canLay _ (SeqAt.canLay_of_shaped hsh))) hg ?_ (fun _ _ e => e) (fun h' t tk hk => ?_) hz.2.2
        · have := SeqAt.depth_of_shaped hsh
          omega
        · exact ⟨.str d.shown, H, I.kept hk, ⟨_, rfl⟩, q'⟩
      cases d with
      | none =>
        cases hx.non
        cases ru
        exact PySem.P.repr_of_none ⟨.str _, H, I.tok _, ⟨_, rfl⟩, q'⟩
      | bool b =>
        cases hx.bool
        cases ru
        exact PySem.P.repr_of_bool ⟨.str _, H, I.tok _, ⟨_, rfl⟩, q'⟩
      | int i =>
        cases hx.int
        obtain ⟨t, rfl⟩ := ru
        exact PySem.P.repr_of_int (by simpa [PyData.showable] using hz.2.1) ⟨.str _, H, I.tok _, ⟨_, rfl⟩, q'⟩
      | str x =>
        cases hx.str
        obtain ⟨t, rfl⟩ := ru
        exact PySem.P.repr_of_str ⟨.str _, H, I.tok _, ⟨_, rfl⟩, q'⟩ hz.2.2
      | list es =>
        obtain ⟨a, ys, rfl, h1, h2⟩ := hx.list
        cases ru
        rcases hz.1 with hsh | hsh
        · exact refs a hsh rfl rfl
        · exact repr_dicts hu hg I h1 h2 hsh hz.2.1 hz.2.2 q'
      | tuple es =>
        obtain ⟨a, ys, rfl, h1, h2⟩ := hx.tuple
        cases ru
        rcases hz.1 with hsh | hsh
        · exact refs a hsh rfl rfl
        · cases hsh
      | dict es =>
        rcases hz.1 with hsh | hsh
        · have := SeqAt.canLay_of_shaped hsh
          simp [PyData.canLay0] at this
        · cases hsh
    · cases hp
  · cases hp
end
end Mi

/-! Mi: the instructions and what they mean, on plain data. -/
namespace Mi
open PySem

/-- an exception: its class, its fields -/
structure Xc where
  cls : Str
  fs : List (Str × PD)
inductive Res (α : Type) where
  | ok (a : α) (h : Hd)
  | exc (x : Xc) (h : Hd)
  | bad
def Res.bind {α β : Type} : Res α → (α → Hd → Res β) → Res β
  | .ok a h, f => f a h
  | .exc x h, _ => .exc x h
  | .bad, _ => .bad
/-- nothing may be raised -/
def Res.nox {α : Type} : Res α → Res α
  | .ok a h => .ok a h
  | _ => .bad
def ofO (h : Hd) : Option PD → Res D
  | some p => .ok (.dat p) h
  | none => .bad
/-- the built-in calls that give plain data -/
inductive Bl where
  | len | abs | int | max | min | sum | all | any | tuple | repr
def Bl.fn : Bl → List PD → Option PD
  | .len => lenP
  | .abs => absP
  | .int => intP
  | .max => maxP
  | .min => minP
  | .sum => sumP
  | .all => allP
  | .any => anyP
  | .tuple => tupleP
  | .repr => reprP
/-- classes that isinstance asks -/
inductive Cl where
  | int | bool | str | tuple | list | dict
def isiP : PD → Cl → Bool
  | .int _, .int => true
  | .bool _, .int => true
  | .bool _, .bool => true
  | .str _, .str => true
  | .tuple _, .tuple => true
  | .list _, .list => true
  | .dict _, .dict => true
  | _, _ => false
/-- is it an exception, told as data -/
def exP : PD → Bool
  | .dict ds => exB ds
  | _ => false
/-- operations of one plain value: C(e) of an own exception class (without __init__; with one of one field), isinstance(e, C) of such exceptions by a table, e.f, {'k': e} -/
inductive P1 where
  | mk0 (c : Str)
  | mkv (c f : Str)
  | isx (c : Str) (tab : List (Str × Bool))
  | fld (f : Str) (cs : List Str)
  | dsp (k : Str)
/-- the class of an exception -/
def xcls : PD → Option Str
  | .dict [(.none, .str c)] => some c
  | .dict [(.none, .tuple [.str c, .str _, _])] => some c
  | _ => none
def xfld (f : Str) (cs : List Str) : PD → Option PD
  | .dict [(.none, .tuple [.str c, .str g, d])] => if g = f ∧ c ∈ cs then some d else none
  | _ => none
def P1.fn : P1 → PD → Option PD
  | .mk0 c, _ => some (.dict [(.none, .str c)])
  | .mkv c f, d => some (.dict [(.none, .tuple [.str c, .str f, d])])
  | .isx _ tab, d => ((xcls d).bind fun c => tab.lookup c).map .bool
  | .fld f cs, d => xfld f cs d
  | .dsp k, d => some (.dict [(.str k, d)])
/-- methods of built-in objects -/
inductive Mt where
  | append | extend | pop | popAt | clear
/-! targets -/
mutual
inductive Pt where
  | nm (i : Nat)
  | tp (ps : Pts)
inductive Pts where
  | nil
  | cons (p : Pt) (r : Pts)
end
mutual
inductive E where
  | var (i : Nat)
  | con (d : PD)
  | glo (x : Str)
  | bin (op : Operator) (a b : E)
  | neg (a : E)
  | cmp (op : CmpOp) (a b : E)
  | cmp2 (op op' : CmpOp) (a b c : E)
  | boo (isAnd : Bool) (es : Es)
  | nt (a : E)
  | ife (c a b : E)
  | tup (es : Es)
  | lst (m : Bool) (es : Es)
  | ix (a b : E)
  | sl (m : Bool) (a : E) (lo hi : Eo)
  | call (f : Str) (es : Es)
  | blt (f : Bl) (es : Es)
  | lis (m : Bool) (a : E)
  | isi (a : E) (c : Cl)
  | mth (k : Mt) (o : E) (es : Es)
  | lc (m : Bool) (p : Pt) (it : Itr) (c : Eo) (e : E)
  | dnil
  | p1 (o : P1) (a : E)
inductive Es where
  | nil
  | cons (e : E) (r : Es)
inductive Eo where
  | no
  | yes (e : E)
inductive Itr where
  | seq (e : E)
  | rng (es : Es)
  | enm (e : E)
end
mutual
inductive S where
  | asg (p : Pt) (e : E)
  | par (is : List Nat) (es : Es)
  | put (o i v : E)
  | aug (op : Operator) (i : Nat) (e : E)
  | exp (e : E)
  | ret (e : E)
  | retN
  | ifs (c : E) (a b : Ss)
  | whl (c : E) (b : Ss)
  | for (p : Pt) (it : Itr) (b : Ss)
  | pas
  | brk
  | cnt
  | stop
  | rse (cls fld : Str) (e : E)
  | tri (e : E) (cls fld : Str) (i : Nat)
inductive Ss where
  | nil
  | cons (s : S) (r : Ss)
end

/-! ### targets -/
mutual
def bindP : Pt → PD → Loc → Option Loc
  | .nm i, d, l => some (l.set i (some (.dat d)))
  | .tp ps, .tuple ds, l => bindPs ps ds l
  | .tp _, _, _ => none
def bindPs : Pts → List PD → Loc → Option Loc
  | .nil, [], l => some l
  | .cons p r, d :: ds, l => (bindP p d l).bind fun l' => bindPs r ds l'
  | _, _, _ => none
end
mutual
def Pt.slots : Pt → List Nat
  | .nm i => [i]
  | .tp ps => ps.slots
def Pts.slots : Pts → List Nat
  | .nil => []
  | .cons p r => p.slots ++ r.slots
end
/-- the data of plain values -/
def datsOf : List D → Option (List PD)
  | [] => some []
  | .dat d :: r => (datsOf r).map (d :: ·)
  | _ => none
/-- views of values -/
def rdsOf (h : Hd) : List D → Option (List PD)
  | [] => some []
  | d :: r => match rd h d, rdsOf h r with
    | some p, some ps => some (p :: ps)
    | _, _ => none
/-- a new list, plain or mutable -/
def mkL (m : Bool) (ds : List PD) (h : Hd) : Res D := if m then .ok (.ref h.length) (h ++ [.lst ds]) else .ok (.dat (.list ds)) h
/-- forget the block's own slots -/
def wipeL (l : Loc) : List Nat → Loc
  | [] => l
  | v :: vs => (wipeL l vs).set v none
/-- what a loop walks: the items, and (a mutable list's place) that it stays as it was -/
structure Walk where
  items : List PD
  src : Option (Nat × List PD)
def Walk.stays (w : Walk) (h : Hd) : Prop := ∀ n ds, w.src = some (n, ds) → h[n]? = some (.lst ds)
def enumFrom (i : Int) : List PD → List PD
  | [] => []
  | d :: r => .tuple [.int i, d] :: enumFrom (i + 1) r
def seqOf (h : Hd) : D → Option Walk
  | .dat (.list ds) => some ⟨ds, none⟩
  | .dat (.tuple ds) => some ⟨ds, none⟩
  | .dat (.str z) => some ⟨z.cps.toList.map fun c => .str ⟨#[c]⟩, none⟩
  | .scr ns => some ⟨ns.map .int, none⟩
  | .ref n => match h[n]? with
    | some (.lst ds) => some ⟨ds, some (n, ds)⟩
    | _ => none
  | _ => none
def rngOf : List PD → Option (List PD)
  | [.int j] => if -(2 ^ 62) ≤ j ∧ j < 2 ^ 62 then some ((List.range j.toNat).map fun (i : Nat) => .int (i : Int)) else none
  | [.int i, .int j] => if (-(2 ^ 62) ≤ i ∧ i < 2 ^ 62) ∧ (-(2 ^ 62) ≤ j ∧ j < 2 ^ 62) then some ((List.range (j - i).toNat).map fun (k : Nat) => .int (i + (k : Int))) else none
  | _ => none
open Classical in
/-- the turns of a comprehension -/
noncomputable def lcRun (p : Pt) (w : Walk) (tst : Loc → Hd → Res Bool) (elt : Loc → Hd → Res D) (l : Loc) : List PD → List PD → Hd → Res (List PD)
  | [], acc, h => if w.stays h then .ok acc h else .bad
  | d :: r, acc, h => if w.stays h then
      match bindP p d (wipeL l p.slots) with
      | none => .bad
      | some l' => (tst l' h).nox.bind fun b h1 => if b then (elt l' h1).nox.bind fun y h2 => match y with
          | .dat y => if acc.length < sizeLine then lcRun p w tst elt l r (acc ++ [y]) h2 else .bad
          | _ => .bad
        else lcRun p w tst elt l r acc h1
    else .bad
def isLst (h : Hd) : D → Bool
  | .ref n => match h[n]? with
    | some (.lst _) => true
    | _ => false
  | _ => false
/-- a method's answer and the list behind it -/
def lstRun (xs : List PD) (h : Hd) : Mt → List D → Option (PD × List PD)
  | .append, [.dat d] => if xs.length < sizeLine then some (.none, xs ++ [d]) else none
  | .extend, [d] => match rdx h d with
    | some (.list ys) => if xs.length + ys.length ≤ sizeLine then some (.none, xs ++ ys) else none
    | some (.tuple ys) => if xs.length + ys.length ≤ sizeLine then some (.none, xs ++ ys) else none
    | _ => none
  | .pop, [] => match xs[xs.length - 1]? with
    | some d => some (d, xs.dropLast)
    | none => none
  | .popAt, [.dat (.int i)] => if 0 ≤ i ∧ i < xs.length ∧ i < 2 ^ 63 then (xs[i.toNat]?).map fun d => (d, xs.eraseIdx i.toNat) else none
  | .clear, [] => some (.none, [])
  | _, _ => none
def mthRun (k : Mt) (o : D) (ds : List D) (h : Hd) : Res D := match o with
  | .ref n => match h[n]? with
    | some (.lst xs) => match lstRun xs h k ds with
      | some (d, zs) => .ok (.dat d) (h.set n (.lst zs))
      | none => .bad
    | _ => .bad
  | _ => .bad
section
variable (cf : Str → List D → Hd → Res D) (gc : Str → Option PD)
def truD (h : Hd) (x : D) : Res Bool := match (rd h x).bind truP with
  | some b => .ok b h
  | none => .bad
mutual
noncomputable def evE : E → Loc → Hd → Res D
  | .var i, l, h => match l[i]? with
    | some (some d) => .ok d h
    | _ => .bad
  | .con d, _, h => .ok (.dat d) h
  | .glo x, _, h => ofO h (gc x)
  | .bin op a b, l, h => (evE a l h).bind fun x h1 => (evE b l h1).bind fun y h2 => match rdx h2 x, rdx h2 y with
    | some p, some q => ofO h2 (binP op p q)
    | _, _ => .bad
  | .neg a, l, h => (evE a l h).bind fun x h1 => match x with
    | .dat (.int i) => .ok (.dat (.int (-i))) h1
    | _ => .bad
  | .cmp op a b, l, h => (evE a l h).bind fun x h1 => (evE b l h1).bind fun y h2 => match rd h2 x, rd h2 y with
    | some p, some q => ofO h2 (cmpP op p q)
    | _, _ => .bad
  | .cmp2 op op' a b c, l, h => (evE a l h).bind fun x h1 => (evE b l h1).bind fun y h2 => match rd h2 x, rd h2 y with
    | some p, some q => match cmpP op p q with
      | some (.bool true) => (evE c l h2).bind fun z h3 => match rd h3 y, rd h3 z with
        | some q', some s => ofO h3 (cmpP op' q' s)
        | _, _ => .bad
      | some (.bool false) => .ok (.dat (.bool false)) h2
      | _ => .bad
    | _, _ => .bad
  | .boo k es, l, h => evB k es l h
  | .nt a, l, h => (evE a l h).bind fun x h1 => (truD h1 x).bind fun b h2 => .ok (.dat (.bool (!b))) h2
  | .ife c a b, l, h => (evE c l h).bind fun x h1 => (truD h1 x).bind fun k h2 => if k then evE a l h2 else evE b l h2
  | .tup es, l, h => (evEs es l h).bind fun ds h1 => match datsOf ds with
    | some ps => if ps.length ≤ sizeLine then .ok (.dat (.tuple ps)) h1 else .bad
    | none => .bad
  | .lst m es, l, h => (evEs es l h).bind fun ds h1 => match datsOf ds with
    | some ps => if ps.length ≤ sizeLine then mkL m ps h1 else .bad
    | none => .bad
  | .ix a b, l, h => (evE a l h).bind fun x h1 => (evE b l h1).bind fun y h2 => match rd h2 x, rd h2 y with
    | some p, some q => ofO h2 (ixP p q)
    | _, _ => .bad
  | .sl m a lo hi, l, h => (evE a l h).bind fun x h1 => (evO lo l h1).bind fun i h2 => (evO hi l h2).bind fun j h3 => match rd h3 x with
    | some p => match slP p i j with
      | some (.list ds) => mkL m ds h3
      | q => if m then .bad else ofO h3 q
    | none => .bad
  | .call f es, l, h => (evEs es l h).bind fun ds h1 => cf f ds h1
  | .blt f es, l, h => (evEs es l h).bind fun ds h1 => match rdsOf h1 ds with
    | some ps => ofO h1 (f.fn ps)
    | none => .bad
  | .lis m a, l, h => (evE a l h).bind fun x h1 => match rd h1 x with
    | some (.list ds) => mkL m ds h1
    | some (.tuple ds) => mkL m ds h1
    | _ => .bad
  | .isi a c, l, h => (evE a l h).bind fun x h1 => match rd h1 x with
    | some p => if exP p then .bad else .ok (.dat (.bool (isiP p c))) h1
    | none => .bad
  | .mth k o es, l, h => (evE o l h).bind fun x h1 => if isLst h1 x then (evEs es l h1).bind fun ds h2 => mthRun k x ds h2 else .bad
  | .lc m p it c e, l, h => (evI it l h).bind fun w h1 => (lcRun p w (evC c) (evE e) l w.items [] h1).bind fun ds h2 => mkL m ds h2
  | .dnil, _, h => .ok (.dat (.dict [])) h
  | .p1 o a, l, h => (evE a l h).bind fun x h1 => match x with
    | .dat d => ofO h1 (o.fn d)
    | _ => .bad
noncomputable def evEs : Es → Loc → Hd → Res (List D)
  | .nil, _, h => .ok [] h
  | .cons e r, l, h => (evE e l h).bind fun x h1 => (evEs r l h1).bind fun xs h2 => .ok (x :: xs) h2
noncomputable def evB : Bool → Es → Loc → Hd → Res D
  | _, .nil, _, _ => .bad
  | k, .cons e r, l, h => match r with
    | .nil => evE e l h
    | .cons _ _ => (evE e l h).bind fun x h1 => (truD h1 x).bind fun b h2 => if b = k then evB k r l h2 else .ok x h2
/-- an optional index -/
noncomputable def evO : Eo → Loc → Hd → Res (Option Int)
  | .no, _, h => .ok none h
  | .yes e, l, h => (evE e l h).bind fun x h1 => match x with
    | .dat (.int i) => .ok (some i) h1
    | _ => .bad
/-- an optional test -/
noncomputable def evC : Eo → Loc → Hd → Res Bool
  | .no, _, h => .ok true h
  | .yes e, l, h => (evE e l h).bind fun x h1 => truD h1 x
noncomputable def evI : Itr → Loc → Hd → Res Walk
  | .seq e, l, h => (evE e l h).bind fun x h1 => match seqOf h1 x with
    | some w => .ok w h1
    | none => .bad
  | .rng es, l, h => (evEs es l h).bind fun ds h1 => match (datsOf ds).bind rngOf with
    | some ds => .ok ⟨ds, none⟩ h1
    | none => .bad
  | .enm e, l, h => (evE e l h).bind fun x h1 => match x with
    | .dat (.list ds) => .ok ⟨enumFrom 0 ds, none⟩ h1
    | _ => .bad
end

/-! ### statements -/
inductive Out where
  | nx (l : Loc) (h : Hd)
  | rt (d : D) (h : Hd)
  | bk (l : Loc) (h : Hd)
  | ct (l : Loc) (h : Hd)
  | exc (x : Xc) (l : Loc) (h : Hd)
  | bad
def Res.out {α : Type} (l : Loc) : Res α → (α → Hd → Out) → Out
  | .ok a h, f => f a h
  | .exc x h, _ => .exc x l h
  | .bad, _ => .bad
noncomputable def evT (e : E) (l : Loc) (h : Hd) : Res Bool := (evE cf gc e l h).bind fun x h1 => truD h1 x
def whileN (c : Loc → Hd → Res Bool) (b : Loc → Hd → Out) : Nat → Loc → Hd → Option Out
  | 0, _, _ => none
  | n + 1, l, h => match c l h with
    | .bad => some .bad
    | .exc x h1 => some (.exc x l h1)
    | .ok false h1 => some (.nx l h1)
    | .ok true h1 => match b l h1 with
      | .nx l2 h2 => whileN c b n l2 h2
      | .ct l2 h2 => whileN c b n l2 h2
      | .bk l2 h2 => some (.nx l2 h2)
      | .rt d h2 => some (.rt d h2)
      | .exc x l2 h2 => some (.exc x l2 h2)
      | .bad => some .bad
open Classical in
noncomputable def whileF (c : Loc → Hd → Res Bool) (b : Loc → Hd → Out) (l : Loc) (h : Hd) : Out :=
  if z : ∃ n o, whileN c b n l h = some o then z.choose_spec.choose else .bad
open Classical in
noncomputable def forRun (p : Pt) (w : Walk) (b : Loc → Hd → Out) : List PD → Loc → Hd → Out
  | [], l, h => if w.stays h then .nx l h else .bad
  | d :: r, l, h => if w.stays h then
      match bindP p d l with
      | none => .bad
      | some l1 => match b l1 h with
        | .nx l2 h2 => forRun p w b r l2 h2
        | .ct l2 h2 => forRun p w b r l2 h2
        | .bk l2 h2 => .nx l2 h2
        | .rt d h2 => .rt d h2
        | .exc x l2 h2 => .exc x l2 h2
        | .bad => .bad
    else .bad
/-- o[i] = v on a list -/
def putRun (h : Hd) (x y z : D) : Option Hd := match y with
  | .ref n => match h[n]? with
    | some (.lst xs) => match x with
      | .dat d => match z with
        | .dat (.int k) => (L2.ixN xs.length k).map fun j => h.set n (.lst (xs.set j d))
        | _ => none
      | _ => none
    | _ => none
  | _ => none
/-- a name's own operators -/
def augI (op : Operator) (a b : Int) : Option PD := match op with
  | .Add => some (.int (a + b))
  | .Sub => some (.int (a - b))
  | _ => none
def augP (op : Operator) (x y : D) : Option PD := match x with
  | .dat (.int a) => match y with
    | .dat (.int b) => augI op a b
    | _ => none
  | _ => none
def setAll : List Nat → List D → Loc → Option Loc
  | [], [], l => some l
  | i :: is, d :: ds, l => setAll is ds (l.set i (some d))
  | _, _, _ => none
/-- try: return e / except cls as i: return i.fld -/
def triRun (cls fld : Str) (i : Nat) (l : Loc) : Res D → Out
  | .ok x h1 => .rt x h1
  | .exc x h1 => if x.cls = cls ∧ i < l.length then match x.fs with
      | [(f, d)] => if f = fld then .rt (.dat d) h1 else .bad
      | _ => .bad
    else .bad
  | .bad => .bad
mutual
noncomputable def exS : S → Loc → Hd → Out
  | .asg p e, l, h => (evE cf gc e l h).out l fun x h1 => match p with
    | .nm i => .nx (l.set i (some x)) h1
    | .tp ps => match x with
      | .dat d => match bindP (.tp ps) d l with
        | some l' => .nx l' h1
        | none => .bad
      | _ => .bad
  | .par is es, l, h => (evEs cf gc es l h).out l fun ds h1 => match setAll is ds l with
    | some l' => .nx l' h1
    | none => .bad
  | .put o i v, l, h => (evE cf gc v l h).out l fun x h1 => (evE cf gc o l h1).out l fun y h2 => (evE cf gc i l h2).out l fun z h3 => match putRun h3 x y z with
    | some h4 => .nx l h4
    | none => .bad
  | .aug op i e, l, h => match l[i]? with
    | some (some x) => (evE cf gc e l h).out l fun y h1 => match augP op x y with
      | some z => .nx (l.set i (some (.dat z))) h1
      | none => .bad
    | _ => .bad
  | .exp e, l, h => (evE cf gc e l h).out l fun _ h1 => .nx l h1
  | .ret e, l, h => (evE cf gc e l h).out l fun x h1 => .rt x h1
  | .retN, _, h => .rt (.dat .none) h
  | .ifs c a b, l, h => (evT cf gc c l h).out l fun k h1 => if k then exSs a l h1 else exSs b l h1
  | .whl c b, l, h => whileF (evT cf gc c) (exSs b) l h
  | .for p it b, l, h => (evI cf gc it l h).out l fun w h1 => forRun p w (exSs b) w.items l h1
  | .pas, l, h => .nx l h
  | .brk, l, h => .bk l h
  | .cnt, l, h => .ct l h
  | .stop, _, _ => .bad
  | .rse cls fld e, l, h => (evE cf gc e l h).out l fun x h1 => match x with
    | .dat d => .exc ⟨cls, [(fld, d)]⟩ l h1
    | _ => .bad
  | .tri e cls fld i, l, h => triRun cls fld i l (evE cf gc e l h)
noncomputable def exSs : Ss → Loc → Hd → Out
  | .nil, l, h => .nx l h
  | .cons s r, l, h => match exS s l h with
    | .nx l1 h1 => exSs r l1 h1
    | o => o
end
/-- a def's end: what it made is forgotten; a mutable object that it hands back is plain from now on, or kept -/
def leave (keep : Bool) (n : Nat) (h : Hd) : D → Res D
  | .dat d => .ok (.dat d) (h.take n)
  | .scr ns => .ok (.scr ns) (h.take n)
  | .ref m => if m < n then .ok (.ref m) (h.take n) else match h[m]? with
    | some o => if keep then .ok (.ref n) (h.take n ++ [o]) else .ok (.dat o.py) (h.take n)
    | none => .bad
noncomputable def runDef (keep : Bool) (size : Nat) (body : Ss) (ds : List D) (h : Hd) : Res D := match exSs cf gc body (ds.map some ++ List.replicate (size - ds.length) none) h with
  | .nx _ h1 => .ok (.dat .none) (h1.take h.length)
  | .rt d h1 => leave keep h.length h1 d
  | .exc x _ h1 => .exc x (h1.take h.length)
  | _ => .bad
end
/-- a program: each def by its name, how many slots it has, how many parameters, its body -/
structure Def where
  size : Nat
  pars : Nat
  keep : Bool
  body : Ss
/-- calls, n deep -/
noncomputable def callN (gc : Str → Option PD) (P : Str → Option Def) : Nat → Str → List D → Hd → Res D
  | 0, _, _, _ => .bad
  | n + 1, f, ds, h => match P f with
    | some d => if ds.length = d.pars then runDef (callN gc P n) gc d.keep d.size d.body ds h else .bad
    | none => .bad
end Mi

/-! Mi: the layer's rules, read by what the instructions mean: expressions. -/
namespace Mi
open PySem PySem.Spec PyProof.Rows L2

/-- an exception of the data's world in the layer's -/
def RX (K : Frg) (ca : Str → Option Addr) (r : Rho) (H : Hp) (x : Xc) (cls : Value) (dd : Option Addr) : Prop :=
  ∃ C, ca x.cls = some C ∧ cls = .ref C ∧ ((x.fs = [] ∧ dd = none) ∨ ∃ d f v p, x.fs = [(f, p)] ∧ dd = some d ∧ Off r d ∧ H d = some (.xd [(f, v)]) ∧ RP K r H v p)
def Go (K : Frg) (ca : Str → Option Addr) (W : WX) (r : Rho) (H : Hp) (σ : L2.St) {α : Type} (x : Res α) (k : α → Hd → Rho → Hp → Prop) : Prop := match x with
  | .ok a h' => ∀ r' H', Ext r H r' H' → RH K r' H' h' → k a h' r' H'
  | .exc x h' => ∀ r' H', Ext r H r' H' → RH K r' H' h' → ∀ cls dd, RX K ca r' H' x cls dd → W cls dd σ H'
  | .bad => False
def kQ (K : Frg) (Q : VK) : D → Hd → Rho → Hp → Prop := fun d _ r H => ∀ v, RV K r H v d → Q v H
def tE (K : Frg) (ca : Str → Option Addr) (W : WX) (f : Loc → Hd → Res D) : TE := fun σ H Q => ∃ r l h, RL K r H l σ ∧ RH K r H h ∧ Go K ca W r H σ (f l h) (kQ K Q)
def kT (Q : Bool → Hp → Prop) : Bool → Hd → Rho → Hp → Prop := fun b _ _ H => Q b H
def tT (K : Frg) (ca : Str → Option Addr) (W : WX) (f : Loc → Hd → Res Bool) : TT := fun σ H Q => ∃ r l h, RL K r H l σ ∧ RH K r H h ∧ Go K ca W r H σ (f l h) (kT Q)
def kA (K : Frg) (Q : List V → Hp → Prop) : List D → Hd → Rho → Hp → Prop := fun ds _ r H => ∀ vs, RVs K r H vs ds → Q vs H
def tA (K : Frg) (ca : Str → Option Addr) (W : WX) (f : Loc → Hd → Res (List D)) : TA := fun σ H Q => ∃ r l h, RL K r H l σ ∧ RH K r H h ∧ Go K ca W r H σ (f l h) (kA K Q)
section
variable {K : Frg} {ca : Str → Option Addr} {W : WX} {r r' : Rho} {H H' : Hp} {σ : L2.St}
theorem Go.mono {α : Type} {x : Res α} {k : α → Hd → Rho → Hp → Prop} (g : Go K ca W r H σ x k) (e : Ext r H r' H') : Go K ca W r' H' σ x k := by
  cases x with
  | ok a h => exact fun r1 H1 e1 q => g r1 H1 (e.trans e1) q
  | exc x h => exact fun r1 H1 e1 q => g r1 H1 (e.trans e1) q
  | bad => exact g
theorem Go.bind {α β : Type} {x : Res α} {f : α → Hd → Res β} {k : β → Hd → Rho → Hp → Prop} (g : Go K ca W r H σ (x.bind f) k) :
    Go K ca W r H σ x fun a h' r' H' => Go K ca W r' H' σ (f a h') k := by
  cases x with
  | ok a h => exact fun r1 H1 e1 q => Go.mono (x := f a h) g e1
  | exc x h => exact g
  | bad => exact g
theorem Go.imp {α : Type} {x : Res α} {k k' : α → Hd → Rho → Hp → Prop} (g : Go K ca W r H σ x k) (i : ∀ a h' r' H', Ext r H r' H' → RH K r' H' h' → k a h' r' H' → k' a h' r' H') : Go K ca W r H σ x k' := by
  cases x with
  | ok a h => exact fun r1 H1 e1 q => i a h r1 H1 e1 q (g r1 H1 e1 q)
  | exc x h => exact g
  | bad => exact g
theorem Go.ok {α : Type} {a : α} {h : Hd} {k : α → Hd → Rho → Hp → Prop} (g : Go K ca W r H σ (.ok a h) k) (q : RH K r H h) : k a h r H := g r H (.refl r H) q
/-- a plain answer -/
theorem post_of {h : Hd} {o : Option PD} {Q : VK} (q : RH K r H h) (g : Go K ca W r H σ (ofO h o) (kQ K Q)) : ∃ p, o = some p ∧ Post K r H Q p := by
  cases o with
  | none => exact False.elim g
  | some p => exact ⟨p, rfl, fun v H1 s rp => g r H1 (.same q.tr s) (q.same s) v rp⟩
end
section
variable {X : Cx} {ca : Str → Option Addr} {W : WX} {a b c : Expr} {fa fb fc : Loc → Hd → Res D} {pos : Pos}
theorem pe_imp {e : Expr} {t t' : TE} (h : PE X e t) (i : ∀ σ H Q, t' σ H Q → t σ H Q) : PE X e t' := ⟨fun pins s σ H Q I w => h.run pins s σ H Q I (i σ H Q w)⟩
theorem pt_imp {e : Expr} {t t' : TT} (h : PT X e t) (i : ∀ σ H Q, t' σ H Q → t σ H Q) : PT X e t' := ⟨fun pins s σ H Q I w => h.run pins s σ H Q I (i σ H Q w)⟩
theorem pa_imp {e : List Expr} {t t' : TA} (h : PA X e t) (i : ∀ σ H Q, t' σ H Q → t σ H Q) : PA X e t' := ⟨fun pos pins s σ H Q I w => h.run pos pins s σ H Q I (i σ H Q w)⟩

theorem snd_var {i : Nat} {x : Str} (hN : X.N[i]? = some x) (hv : Vis X.env.scope x) (hd : (x == ("__debug__" : Str)) = false) (hcd : (x == ("__classdict__" : Str)) = false) :
    PE X (.Name x pos) (tE X.K ca W fun l h => match l[i]? with | some (some d) => .ok d h | _ => .bad) := by
  refine pe_imp (pe_var hN hv hd hcd) fun σ H Q ⟨r, l, h, rl, rh, g⟩ => ?_
  dsimp only at g
  split at g
  · rename_i d hd
    obtain ⟨v, h1, h2⟩ := rl.2 i d hd
    exact ⟨v, h1, g.ok rh v h2⟩
  · exact False.elim g
/-- the written constants -/
def conOk : PD → Const → Bool
  | .none, .none => true
  | .bool b, .bool c => b == c
  | .int i, .int j => i == j
  | .str x, .str y => x == y
  | _, _ => false
theorem snd_con {d : PD} {k : Const} {j : Nat} (e : conOk d k = true) : PE X (.Constant k j pos) (tE X.K ca W fun _ h => .ok (.dat d) h) := by
  cases d <;> cases k <;> first
    | (cases e; done)
    | exact pe_imp pe_non fun σ H Q ⟨r, l, h, rl, rh, g⟩ => g.ok rh _ .non
    | (have e' := beq_iff_eq.mp e; subst e'; exact pe_imp pe_bl fun σ H Q ⟨r, l, h, rl, rh, g⟩ => g.ok rh _ (RP.bl _))
    | (have e' := beq_iff_eq.mp e; subst e'; exact pe_imp pe_int fun σ H Q ⟨r, l, h, rl, rh, g⟩ => g.ok rh _ (RP.int _))
    | (have e' := beq_iff_eq.mp e; subst e'; exact pe_imp pe_str fun σ H Q ⟨r, l, h, rl, rh, g⟩ => g.ok rh _ (RP.str _))
theorem snd_glo {x : Str} {gc : Str → Option PD} (hg : Gl X x) (hc : ∀ d, gc x = some d → ∃ u v, X.mg x = some u ∧ RelV v u ∧ ∀ r H, RP X.K r H v d) (hs : (gc x).isSome = true) (hd : (x == ("__debug__" : Str)) = false) :
    PE X (.Name x pos) (tE X.K ca W fun _ h => ofO h (gc x)) := by
  cases e : gc x with
  | none => rw [e] at hs; cases hs
  | some d =>
    obtain ⟨u, v, h1, h2, h3⟩ := hc d e
    exact pe_imp (pe_glob hg h1 h2 hd) fun σ H Q ⟨r, l, h, rl, rh, g⟩ => g.ok rh v (h3 r H)
theorem snd_bin {op : Operator} (ha : PE X a (tE X.K ca W fa)) (hb : PE X b (tE X.K ca W fb)) :
    PE X (.BinOp a op b pos) (tE X.K ca W fun l h => (fa l h).bind fun x h1 => (fb l h1).bind fun y h2 => match rdx h2 x, rdx h2 y with
      | some p, some q => ofO h2 (binP op p q)
      | _, _ => .bad) := by
  refine pe_imp (pe_op (bin_ok op) ha hb) fun σ H Q ⟨r, l, h, rl, rh, g⟩ => ?_
  refine ⟨r, l, h, rl, rh, g.bind.imp fun x h1 r1 H1 e1 rh1 g1 v rv => ⟨r1, l, h1, rl.ext e1, rh1, g1.bind.imp fun y h2 r2 H2 e2 rh2 g2 u ru => ?_⟩⟩
  split at g2
  · rename_i p q ex ey
    obtain ⟨z, hz, po⟩ := post_of rh2 g2
    exact ⟨r2, p, q, z, vx_of rh2 (rv.ext e2) ex, vx_of rh2 ru ey, rh2.tr, hz, po⟩
  · exact False.elim g2
theorem snd_neg (ha : PE X a (tE X.K ca W fa)) :
    PE X (.UnaryOp .USub a pos) (tE X.K ca W fun l h => (fa l h).bind fun x h1 => match x with
      | .dat (.int i) => .ok (.dat (.int (-i))) h1
      | _ => .bad) := by
  refine pe_imp (pe_un un_neg ha) fun σ H Q ⟨r, l, h, rl, rh, g⟩ => ?_
  refine ⟨r, l, h, rl, rh, g.bind.imp fun x h1 r1 H1 e1 rh1 g1 v rv => ?_⟩
  split at g1
  · rename_i i
    have rv' : RP X.K r1 H1 v (.int i) := rv
    cases rv'
    exact ⟨i, rfl, g1.ok rh1 _ (RP.int _)⟩
  · exact False.elim g1
theorem snd_cmp {op : CmpOp} (hu : X.A.units + 65 < cLine) (hm : behindInMarks op b = false) (ha : PE X a (tE X.K ca W fa)) (hb : PE X b (tE X.K ca W fb)) :
    PE X (.Compare a [op] [b] pos) (tE X.K ca W fun l h => (fa l h).bind fun x h1 => (fb l h1).bind fun y h2 => match rd h2 x, rd h2 y with
      | some p, some q => ofO h2 (cmpP op p q)
      | _, _ => .bad) := by
  refine pe_imp (pe_cmpR (cmp_ok op hu) ha hb hm) fun σ H Q ⟨r, l, h, rl, rh, g⟩ => ?_
  refine ⟨r, l, h, rl, rh, g.bind.imp fun x h1 r1 H1 e1 rh1 g1 v rv => ⟨r1, l, h1, rl.ext e1, rh1, g1.bind.imp fun y h2 r2 H2 e2 rh2 g2 u ru => ?_⟩⟩
  split at g2
  · rename_i p q ex ey
    obtain ⟨z, hz, po⟩ := post_of rh2 g2
    exact ⟨r2, p, q, z, vw_of rh2 (rv.ext e2) ex, vw_of rh2 ru ey, rh2.tr, hz, po⟩
  · exact False.elim g2
/-- the answer of a comparison is a truth value -/
theorem cmp_bool {op : CmpOp} {d e p : PD} (h : cmpP op d e = some p) : ∃ b, p = .bool b := by
  cases op with
  | Eq =>
    simp only [cmpP, eqP] at h
    split at h
    · cases h; exact ⟨_, rfl⟩
    · split at h <;> cases h
      exact ⟨_, rfl⟩
  | NotEq =>
    simp only [cmpP, neP] at h
    split at h
    · cases h; exact ⟨_, rfl⟩
    · split at h <;> cases h
      exact ⟨_, rfl⟩
  | Lt => cases d <;> cases e <;> cases h <;> exact ⟨_, rfl⟩
  | LtE => cases d <;> cases e <;> cases h <;> exact ⟨_, rfl⟩
  | Gt => cases d <;> cases e <;> cases h <;> exact ⟨_, rfl⟩
  | GtE => cases d <;> cases e <;> cases h <;> exact ⟨_, rfl⟩
  | In => simp only [cmpP] at h; cases q : inP d e <;> rw [q] at h <;> cases h; exact ⟨_, rfl⟩
  | NotIn => simp only [cmpP] at h; cases q : inP d e <;> rw [q] at h <;> cases h; exact ⟨_, rfl⟩
  | Is => simp only [cmpP] at h; cases q : isP d e <;> rw [q] at h <;> cases h; exact ⟨_, rfl⟩
  | IsNot => simp only [cmpP] at h; cases q : isP d e <;> rw [q] at h <;> cases h; exact ⟨_, rfl⟩
/-- a comparison as a test -/
theorem snd_cmpT {op : CmpOp} (hu : X.A.units + 65 < cLine) (hm : behindInMarks op b = false) (ha : PE X a (tE X.K ca W fa)) (hb : PE X b (tE X.K ca W fb)) :
    PT X (.Compare a [op] [b] pos) (tT X.K ca W fun l h => ((fa l h).bind fun x h1 => (fb l h1).bind fun y h2 => match rd h2 x, rd h2 y with
      | some p, some q => ofO h2 (cmpP op p q)
      | _, _ => .bad).bind fun x h1 => truD h1 x) := by
  refine pt_imp (pt_cmpR (cmp_ok op hu) ha hb hm) fun σ H Q ⟨r, l, h, rl, rh, g⟩ => ?_
  refine ⟨r, l, h, rl, rh, g.bind.bind.imp fun x h1 r1 H1 e1 rh1 g1 v rv => ⟨r1, l, h1, rl.ext e1, rh1, g1.bind.imp fun y h2 r2 H2 e2 rh2 g2 u ru => ?_⟩⟩
  split at g2
  · rename_i p q ex ey
    cases hz : cmpP op p q with
    | none => rw [hz] at g2; exact False.elim g2
    | some z =>
      rw [hz] at g2
      obtain ⟨bb, rfl⟩ := cmp_bool hz
      refine ⟨r2, p, q, _, vw_of rh2 (rv.ext e2) ex, vw_of rh2 ru ey, rh2.tr, hz, fun w H3 s3 rp => ?_⟩
      cases rp
      exact ⟨bb, rfl, (g2 r2 H3 (.same rh2.tr s3) (rh2.same s3)).ok (rh2.same s3)⟩
  · exact False.elim g2
theorem snd_cmp2 {op op' : CmpOp} (hu : X.A.units + 65 < cLine) (hm : lastMarks [op, op'] [b, c] = false) (ha : PE X a (tE X.K ca W fa)) (hb : PE X b (tE X.K ca W fb)) (hc : PE X c (tE X.K ca W fc)) :
    PE X (.Compare a [op, op'] [b, c] pos) (tE X.K ca W fun l h => (fa l h).bind fun x h1 => (fb l h1).bind fun y h2 => match rd h2 x, rd h2 y with
      | some p, some q => match cmpP op p q with
        | some (.bool true) => (fc l h2).bind fun z h3 => match rd h3 y, rd h3 z with
          | some q', some s => ofO h3 (cmpP op' q' s)
          | _, _ => .bad
        | some (.bool false) => .ok (.dat (.bool false)) h2
        | _ => .bad
      | _, _ => .bad) := by
  refine pe_imp (pe_chain (cmp_ok op hu) (cmp_ok op' hu) ha hb hc hm) fun σ H Q ⟨r, l, h, rl, rh, g⟩ => ?_
  refine ⟨r, l, h, rl, rh, g.bind.imp fun x h1 r1 H1 e1 rh1 g1 v rv => ⟨r1, l, h1, rl.ext e1, rh1, g1.bind.imp fun y h2 r2 H2 e2 rh2 g2 u ru => ?_⟩⟩
  split at g2
  · rename_i p q ex ey
    split at g2
    · rename_i hz
      refine ⟨r2, p, q, _, vw_of rh2 (rv.ext e2) ex, vw_of rh2 ru ey, rh2.tr, hz, fun w H3 s3 rp => ?_⟩
      cases rp
      refine ⟨true, rfl, iteT ?_⟩
      have e3 : Ext r2 H2 r2 H3 := .same rh2.tr s3
      refine ⟨r2, l, h2, (rl.ext e1).ext (e2.trans e3), rh2.same s3, (g2.mono e3).bind.imp fun z h4 r4 H4 e4 rh4 g4 t rt => ?_⟩
      split at g4
      · rename_i q' s ey' ez
        obtain ⟨zz, hzz, po⟩ := post_of rh4 g4
        exact ⟨r4, q', s, zz, vw_of rh4 (ru.ext (e3.trans e4)) ey', vw_of rh4 rt ez, rh4.tr, hzz, po⟩
      · exact False.elim g4
    · rename_i hz
      refine ⟨r2, p, q, _, vw_of rh2 (rv.ext e2) ex, vw_of rh2 ru ey, rh2.tr, hz, fun w H3 s3 rp => ?_⟩
      cases rp
      exact ⟨false, rfl, iteF (g2 r2 H3 (.same rh2.tr s3) (rh2.same s3) _ (RP.bl false))⟩
    · exact False.elim g2
  · exact False.elim g2
theorem snd_cmp2T {op op' : CmpOp} (hu : X.A.units + 65 < cLine) (hm : lastMarks [op, op'] [b, c] = false) (ha : PE X a (tE X.K ca W fa)) (hb : PE X b (tE X.K ca W fb)) (hc : PE X c (tE X.K ca W fc)) :
    PT X (.Compare a [op, op'] [b, c] pos) (tT X.K ca W fun l h => ((fa l h).bind fun x h1 => (fb l h1).bind fun y h2 => match rd h2 x, rd h2 y with
      | some p, some q => match cmpP op p q with
        | some (.bool true) => (fc l h2).bind fun z h3 => match rd h3 y, rd h3 z with
          | some q', some s => ofO h3 (cmpP op' q' s)
          | _, _ => .bad
        | some (.bool false) => .ok (.dat (.bool false)) h2
        | _ => .bad
      | _, _ => .bad).bind fun x h1 => truD h1 x) := by
  refine pt_imp (pt_chain (cmp_ok op hu) (cmp_ok op' hu) ha hb hc hm) fun σ H Q ⟨r, l, h, rl, rh, g⟩ => ?_
  refine ⟨r, l, h, rl, rh, g.bind.bind.imp fun x h1 r1 H1 e1 rh1 g1 v rv => ⟨r1, l, h1, rl.ext e1, rh1, g1.bind.imp fun y h2 r2 H2 e2 rh2 g2 u ru => ?_⟩⟩
  split at g2
  · rename_i p q ex ey
    split at g2
    · rename_i hz
      refine ⟨r2, p, q, _, vw_of rh2 (rv.ext e2) ex, vw_of rh2 ru ey, rh2.tr, hz, fun w H3 s3 rp => ?_⟩
      cases rp
      refine ⟨true, rfl, iteT ?_⟩
      have e3 : Ext r2 H2 r2 H3 := .same rh2.tr s3
      refine ⟨r2, l, h2, (rl.ext e1).ext (e2.trans e3), rh2.same s3, (g2.mono e3).bind.imp fun z h4 r4 H4 e4 rh4 g4 t rt => ?_⟩
      split at g4
      · rename_i q' s ey' ez
        cases hy : cmpP op' q' s with
        | none => rw [hy] at g4; exact False.elim g4
        | some zz =>
          rw [hy] at g4
          obtain ⟨bb, rfl⟩ := cmp_bool hy
          refine ⟨r4, q', s, _, vw_of rh4 (ru.ext (e3.trans e4)) ey', vw_of rh4 rt ez, rh4.tr, hy, fun w H5 s5 rp => ?_⟩
          cases rp
          exact ⟨bb, rfl, (g4 r4 H5 (.same rh4.tr s5) (rh4.same s5)).ok (rh4.same s5)⟩
      · exact False.elim g4
    · rename_i hz
      refine ⟨r2, p, q, _, vw_of rh2 (rv.ext e2) ex, vw_of rh2 ru ey, rh2.tr, hz, fun w H3 s3 rp => ?_⟩
      cases rp
      exact ⟨false, rfl, iteF ⟨false, rfl, (g2 r2 H3 (.same rh2.tr s3) (rh2.same s3)).ok (rh2.same s3)⟩⟩
    · exact False.elim g2
  · exact False.elim g2
/-- truth -/
theorem tru_of {K : Frg} {r : Rho} {H : Hp} {σ : L2.St} {h : Hd} {v : V} {d : D} {k : Bool → Hd → Rho → Hp → Prop} (rh : RH K r H h) (rv : RV K r H v d) (g : Go K ca W r H σ (truD h d) k) : ∃ b, TruV K v H b ∧ truD h d = .ok b h ∧ k b h r H := by
  unfold truD at g ⊢
  cases e : rd h d with
  | none => rw [e] at g; exact False.elim g
  | some p =>
    rw [e] at g
    cases e2 : truP p with
    | none => simp only [Option.bind, e2] at g; exact False.elim g
    | some b =>
      simp only [Option.bind, e2] at g ⊢
      exact ⟨b, tru_by (vw_of rh rv e) e2, rfl, g.ok rh⟩
theorem snd_not (ha : PE X a (tE X.K ca W fa)) :
    PE X (.UnaryOp .Not a pos) (tE X.K ca W fun l h => (fa l h).bind fun x h1 => (truD h1 x).bind fun b h2 => .ok (.dat (.bool (!b))) h2) := by
  refine pe_imp (pe_notT ha) fun σ H Q ⟨r, l, h, rl, rh, g⟩ => ?_
  refine ⟨r, l, h, rl, rh, g.bind.imp fun x h1 r1 H1 e1 rh1 g1 v rv => ?_⟩
  obtain ⟨b, h2, _, g2⟩ := tru_of rh1 rv g1.bind
  exact ⟨b, h2, g2.ok rh1 _ (RP.bl _)⟩
/-- any expression whose test is its value's truth -/
theorem snd_test (ha : PE X a (tE X.K ca W fa)) (he : ∀ whole, isTrue a X.env whole = (do let v ← whole; standAt a.pos; holding [v] (truthy v))) :
    PT X a (tT X.K ca W fun l h => (fa l h).bind fun x h1 => truD h1 x) := by
  refine pt_imp (pt_truth ha he) fun σ H Q ⟨r, l, h, rl, rh, g⟩ => ?_
  refine ⟨r, l, h, rl, rh, g.bind.imp fun x h1 r1 H1 e1 rh1 g1 v rv => ?_⟩
  obtain ⟨b, h2, _, g2⟩ := tru_of rh1 rv g1
  exact ⟨b, h2, g2⟩
theorem snd_notT {ft : Loc → Hd → Res Bool} (ha : PT X a (tT X.K ca W ft)) : PT X (.UnaryOp .Not a pos) (tT X.K ca W fun l h => (ft l h).bind fun b h1 => .ok (!b) h1) := by
  refine pt_imp (pt_not ha) fun σ H Q ⟨r, l, h, rl, rh, g⟩ => ?_
  exact ⟨r, l, h, rl, rh, g.bind.imp fun b h1 r1 H1 e1 rh1 g1 => g1.ok rh1⟩
theorem snd_ife {ft : Loc → Hd → Res Bool} (hc : PT X c (tT X.K ca W ft)) (ha : PE X a (tE X.K ca W fa)) (hb : PE X b (tE X.K ca W fb)) :
    PE X (.IfExp c a b pos) (tE X.K ca W fun l h => (ft l h).bind fun k h2 => if k then fa l h2 else fb l h2) := by
  refine pe_imp (pe_ifExp hc ha hb) fun σ H Q ⟨r, l, h, rl, rh, g⟩ => ?_
  refine ⟨r, l, h, rl, rh, g.bind.imp fun k h1 r1 H1 e1 rh1 g1 => ?_⟩
  cases k with
  | true => exact iteT (B := tE X.K ca W fb σ H1 Q) ⟨r1, l, h1, rl.ext e1, rh1, g1⟩
  | false => exact iteF (A := tE X.K ca W fa σ H1 Q) ⟨r1, l, h1, rl.ext e1, rh1, g1⟩
/-- argument lists -/
theorem snd_nil : PA X [] (tA X.K ca W fun _ h => .ok [] h) := pa_imp pa_nil fun σ H Q ⟨r, l, h, rl, rh, g⟩ => g.ok rh [] .nil
theorem snd_cons {es : List Expr} {fs : Loc → Hd → Res (List D)} (ha : PE X a (tE X.K ca W fa)) (hr : PA X es (tA X.K ca W fs)) (hs : starEach (a :: es) X.env = (false, eval a X.env) :: starEach es X.env) :
    PA X (a :: es) (tA X.K ca W fun l h => (fa l h).bind fun x h1 => (fs l h1).bind fun xs h2 => .ok (x :: xs) h2) := by
  refine pa_imp (pa_cons ha hr hs) fun σ H Q ⟨r, l, h, rl, rh, g⟩ => ?_
  exact ⟨r, l, h, rl, rh, g.bind.imp fun x h1 r1 H1 e1 rh1 g1 v rv => ⟨r1, l, h1, rl.ext e1, rh1, g1.bind.imp fun xs h2 r2 H2 e2 rh2 g2 vs rvs => g2.ok rh2 (v :: vs) (.cons (rv.ext e2) rvs)⟩⟩
theorem dats_rps {K : Frg} {r : Rho} {H : Hp} : ∀ {ds : List D} {ps : List PD} {vs : List V}, RVs K r H vs ds → datsOf ds = some ps → RPs K r H vs ps
  | [], _, _, h, e => by cases h; cases e; exact .nil
  | d :: ds, ps, _, h, e => by
    cases h with
    | cons h1 h2 =>
      cases d with
      | dat d =>
        simp only [datsOf] at e
        cases q : datsOf ds with
        | none => rw [q] at e; cases e
        | some qs =>
          rw [q] at e
          cases e
          exact .cons h1 (dats_rps h2 q)
      | _ => cases e
theorem rds_vws {K : Frg} {r : Rho} {H : Hp} {h : Hd} (rh : RH K r H h) : ∀ {ds : List D} {ps : List PD} {vs : List V}, RVs K r H vs ds → rdsOf h ds = some ps → Vws K r H vs ps
  | [], _, _, q, e => by cases q; cases e; exact .nil
  | d :: ds, ps, _, q, e => by
    cases q with
    | cons h1 h2 =>
      simp only [rdsOf] at e
      split at e
      · rename_i p qs e1 e2
        cases e
        exact .cons (vw_of rh h1 e1) (rds_vws rh h2 e2)
      · cases e
theorem snd_tup {es : List Expr} {k : Nat} {fs : Loc → Hd → Res (List D)} (hr : PA X es (tA X.K ca W fs)) :
    PE X (.Tuple es k pos) (tE X.K ca W fun l h => (fs l h).bind fun ds h1 => match datsOf ds with
      | some ps => if ps.length ≤ sizeLine then .ok (.dat (.tuple ps)) h1 else .bad
      | none => .bad) := by
  refine pe_imp (pe_tup hr) fun σ H Q ⟨r, l, h, rl, rh, g⟩ => ?_
  refine ⟨r, l, h, rl, rh, g.bind.imp fun ds h1 r1 H1 e1 rh1 g1 vs rvs => ?_⟩
  split at g1
  · rename_i ps he
    split at g1
    · rename_i hz
      have rp := dats_rps rvs he
      refine ⟨by rw [rp.length]; exact hz, fun p hp => ?_⟩
      exact g1 r1 _ (.same rh1.tr (same_new hp)) (rh1.same (same_new hp)) _ (RP.tup (.inl ⟨.inl upd_same, rh1.fresh hp⟩) (rp.sm (same_new hp)))
    · exact False.elim g1
  · exact False.elim g1
/-- a new list: plain, or an object of the heap -/
theorem new_list {K : Frg} {r : Rho} {H : Hp} {σ : L2.St} {h : Hd} {m : Bool} {ds : List PD} {ys : List V} {Q : VK} (rh : RH K r H h) (rp : RPs K r H ys ds) (g : Go K ca W r H σ (mkL m ds h) (kQ K Q)) : ∀ p, H p = none → Q (.ref p) (upd H p (.lst ys)) := by
  intro p hp
  cases m with
  | false => exact g r _ (.same rh.tr (same_new hp)) (rh.same (same_new hp)) _ (RP.lst upd_same (rh.fresh hp) (rp.sm (same_new hp)))
  | true =>
    have e : Ext r H (r.push p) (upd H p (.lst ys)) := .newM rh.tr hp
    refine g (r.push p) _ e (rh.new hp ⟨ys, upd_same, rp.ext e⟩) _ ⟨p, ?_, rfl⟩
    rw [← rh.len]
    simp [Rho.push]
theorem snd_lst {m : Bool} {es : List Expr} {fs : Loc → Hd → Res (List D)} (hr : PA X es (tA X.K ca W fs)) :
    PE X (.List es pos) (tE X.K ca W fun l h => (fs l h).bind fun ds h1 => match datsOf ds with
      | some ps => if ps.length ≤ sizeLine then mkL m ps h1 else .bad
      | none => .bad) := by
  refine pe_imp (pe_lst hr) fun σ H Q ⟨r, l, h, rl, rh, g⟩ => ?_
  refine ⟨r, l, h, rl, rh, g.bind.imp fun ds h1 r1 H1 e1 rh1 g1 vs rvs => ?_⟩
  split at g1
  · rename_i ps he
    split at g1
    · rename_i hz
      have rp := dats_rps rvs he
      exact ⟨by rw [rp.length]; exact hz, new_list rh1 rp g1⟩
    · exact False.elim g1
  · exact False.elim g1
theorem snd_ix (hu : X.A.units + 1 < cLine) (hs : PlainIx b) (ha : PE X a (tE X.K ca W fa)) (hb : PE X b (tE X.K ca W fb)) :
    PE X (.Subscript a b pos) (tE X.K ca W fun l h => (fa l h).bind fun x h1 => (fb l h1).bind fun y h2 => match rd h2 x, rd h2 y with
      | some p, some q => ofO h2 (ixP p q)
      | _, _ => .bad) := by
  refine pe_imp (pe_ix (ix_ok hu) ha hb hs) fun σ H Q ⟨r, l, h, rl, rh, g⟩ => ?_
  refine ⟨r, l, h, rl, rh, g.bind.imp fun x h1 r1 H1 e1 rh1 g1 v rv => ⟨r1, l, h1, rl.ext e1, rh1, g1.bind.imp fun y h2 r2 H2 e2 rh2 g2 u ru => ?_⟩⟩
  split at g2
  · rename_i p q ex ey
    obtain ⟨z, hz, po⟩ := post_of rh2 g2
    exact ⟨r2, p, q, z, vw_of rh2 (rv.ext e2) ex, vw_of rh2 ru ey, rh2.tr, hz, po⟩
  · exact False.elim g2
end
end Mi

/-! Mi: slices, calls, isinstance, methods, and/or, targets. -/
namespace Mi
open PySem PySem.Spec PyProof.Rows L2

section
variable {X : Cx} {ca : Str → Option Addr} {W : WX} {a b c : Expr} {fa fb fc : Loc → Hd → Res D} {pos : Pos}
/-! ### slices -/
def tO (K : Frg) (ca : Str → Option Addr) (W : WX) (f : Loc → Hd → Res (Option Int)) : TO := fun σ H Q => ∃ r l h, RL K r H l σ ∧ RH K r H h ∧ Go K ca W r H σ (f l h) (fun o _ _ H => Q o H)
theorem po_imp {e : Option Expr} {t t' : TO} (h : PO X e t) (i : ∀ σ H Q, t' σ H Q → t σ H Q) : PO X e t' := ⟨fun pins s σ H Q I w => h.run pins s σ H Q I (i σ H Q w)⟩
theorem snd_noPart : PO X none (tO X.K ca W fun _ h => .ok none h) := po_imp po_none fun σ H Q ⟨r, l, h, rl, rh, g⟩ => g.ok rh
theorem snd_part (ha : PE X a (tE X.K ca W fa)) : PO X (some a) (tO X.K ca W fun l h => (fa l h).bind fun x h1 => match x with
    | .dat (.int i) => .ok (some i) h1
    | _ => .bad) := by
  refine po_imp (po_some ha) fun σ H Q ⟨r, l, h, rl, rh, g⟩ => ?_
  refine ⟨r, l, h, rl, rh, g.bind.imp fun x h1 r1 H1 e1 rh1 g1 v rv => ?_⟩
  split at g1
  · rename_i i
    have rv' : RP X.K r1 H1 v (.int i) := rv
    cases rv'
    exact ⟨i, rfl, g1.ok rh1⟩
  · exact False.elim g1
theorem snd_sl {m : Bool} {lo hi : Option Expr} {p2 : Pos} {fl fh : Loc → Hd → Res (Option Int)} (ha : PE X a (tE X.K ca W fa)) (hl : PO X lo (tO X.K ca W fl)) (hh : PO X hi (tO X.K ca W fh)) :
    PE X (.Subscript a (.Slice lo hi none p2) pos) (tE X.K ca W fun l h => (fa l h).bind fun x h1 => (fl l h1).bind fun i h2 => (fh l h2).bind fun j h3 => match rd h3 x with
      | some p => match slP p i j with
        | some (.list ds) => mkL m ds h3
        | q => if m then .bad else ofO h3 q
      | none => .bad) := by
  refine pe_imp (pe_slice ((sl_list (X := X)).or (sl_ok (X := X))) ha hl hh) fun σ H Q ⟨r, l, h, rl, rh, g⟩ => ?_
  refine ⟨r, l, h, rl, rh, g.bind.imp fun x h1 r1 H1 e1 rh1 g1 v rv => ⟨r1, l, h1, rl.ext e1, rh1, g1.bind.imp fun i h2 r2 H2 e2 rh2 g2 => ⟨r2, l, h2, (rl.ext e1).ext e2, rh2, g2.bind.imp fun j h3 r3 H3 e3 rh3 g3 => ?_⟩⟩⟩
  have rv3 := rv.ext (e2.trans e3)
  split at g3
  · rename_i p ex
    have vw := vw_of rh3 rv3 ex
    split at g3
    · rename_i ds hs
      cases p with
      | list es =>
        obtain ⟨q, ys, rfl, h4, h5⟩ := vw.list
        cases hs
        exact .inl ⟨q, ys, rfl, h4, new_list rh3 (h5.cut i j) g3⟩
      | tuple es => cases hs
      | str z => simp only [slP] at hs; split at hs <;> cases hs
      | _ => cases hs
    · cases m with
      | true => exact False.elim g3
      | false =>
        obtain ⟨z, hz, po⟩ := post_of rh3 g3
        exact .inr ⟨r3, p, z, vw, rh3.tr, hz, po⟩
  · exact False.elim g3

/-! ### calls -/
/-- the promise of a def: what the data's world says -/
def spD (K : Frg) (ca : Str → Option Addr) (n : Nat) (F : List D → Hd → Res D) : Sp := fun vs H Q E => ∃ r h ds, RVs K r H vs ds ∧ RH K r H h ∧ ds.length = n ∧ match F ds h with
  | .ok d h' => ∀ v r' H', Ext r H r' H' → RH K r' H' h' → RV K r' H' v d → Q v H'
  | .exc x h' => ∀ H' cls dd, Ext r H r H' → RH K r H' h' → RX K ca r H' x cls dd → E cls dd H'
  | .bad => False
theorem any_star {es : List Expr} {env : Env} {pos : Pos} (h : ∀ e ∈ es, ∀ x p, e ≠ .Starred x p) : (backTo pos (starEach es env)).any (·.1) = false := by
  induction es with
  | nil => rfl
  | cons e es ih =>
    have e1 : starEach (e :: es) env = (false, eval e env) :: starEach es env := by
      cases e <;> first | rfl | exact absurd rfl (h _ List.mem_cons_self _ _)
    rw [e1]
    show (false || (backTo pos (starEach es env)).any (·.1)) = false
    rw [ih fun e he => h e (List.mem_cons_of_mem _ he)]
    rfl
theorem one_star {e : Expr} {es : List Expr} {env : Env} (h : ∀ x p, e ≠ .Starred x p) : starEach (e :: es) env = (false, eval e env) :: starEach es env := by
  cases e <;> first | rfl | exact absurd rfl (h _ _)
theorem all_star {es : List Expr} {env : Env} {pos : Pos} (h : ∀ e ∈ es, ∀ x p, e ≠ .Starred x p) : (backTo pos (starEach es env)).all (fun x => !x.1) = true := by
  induction es with
  | nil => rfl
  | cons e es ih =>
    rw [one_star (h e List.mem_cons_self)]
    show (!false && (backTo pos (starEach es env)).all (fun x => !x.1)) = true
    rw [ih fun e he => h e (List.mem_cons_of_mem _ he)]
    rfl
theorem snd_call {k n : Nat} {f : Addr} {fd : FuncData} {ps : List Str} {x : Str} {p : Pos} {e : Expr} {es : List Expr} {fs : Loc → Hd → Res (List D)} {F : List D → Hd → Res D}
    (FO : FnG X.prog X.w X.K X.mg X.base k f fd ps (spD X.K ca n F)) (hq : X.A.guards = some []) (hr : Room k X.A) (hg : Gl X x) (hm : X.mg x = some (.ref f)) (hk : PySem.W.keepIn X.K (.ref f) = true) (hb : Binds X.K fd ps []) (tk : Takes X W)
    (hl : ∀ ds h, ds.length ≠ n → F ds h = .bad) (ha : PA X (e :: es) (tA X.K ca W fs)) (hdb : (x == ("__debug__" : Str)) = false) (hst : ∀ y ∈ e :: es, ∀ x p, y ≠ .Starred x p) :
    PE X (.Call (.Name x p) (e :: es) [] pos) (tE X.K ca W fun l h => (fs l h).bind fun ds h1 => F ds h1) := by
  refine pe_imp (pe_callG FO hq hr hg hm hk hb tk ha hdb (one_star (hst e List.mem_cons_self)) (any_star fun y hy => hst y (List.mem_cons_of_mem _ hy))) fun σ H Q ⟨r, l, h, rl, rh, g⟩ => ?_
  refine ⟨r, l, h, rl, rh, g.bind.imp fun ds h1 r1 H1 e1 rh1 g1 vs rvs => ?_⟩
  refine ⟨r1, h1, ds, rvs, rh1, ?_, ?_⟩
  · refine Decidable.byContradiction fun hne => ?_
    rw [hl ds h1 hne] at g1
    exact g1
  · cases hF : F ds h1 with
    | ok d h' =>
      rw [hF] at g1
      exact fun v r' H' e' rh' rv => g1 r' H' e' rh' v rv
    | exc x h' =>
      rw [hF] at g1
      exact fun H' cls dd e' rh' rx => g1 r1 H' e' rh' cls dd rx
    | bad =>
      rw [hF] at g1
      exact g1
theorem snd_blt {id : String} {x : Str} {g0 : List PD → Option PD} {p : Pos} {e : Expr} {es : List Expr} {fs : Loc → Hd → Res (List D)} (hc : CallR X (.builtin id) (rCW X.K g0)) (hg : Gl X x) (hm : X.mg x = none) (hv : bootBuiltins x = some (.builtin id))
    (ha : PA X (e :: es) (tA X.K ca W fs)) (hn : x ≠ "__name__") (hdb : (x == ("__debug__" : Str)) = false) (hst : ∀ y ∈ e :: es, ∀ x p, y ≠ .Starred x p) :
    PE X (.Call (.Name x p) (e :: es) [] pos) (tE X.K ca W fun l h => (fs l h).bind fun ds h1 => match rdsOf h1 ds with
      | some ps => ofO h1 (g0 ps)
      | none => .bad) := by
  refine pe_imp (pe_callB hc hg hm hv ha hn hdb (one_star (hst e List.mem_cons_self)) (any_star fun y hy => hst y (List.mem_cons_of_mem _ hy))) fun σ H Q ⟨r, l, h, rl, rh, g⟩ => ?_
  refine ⟨r, l, h, rl, rh, g.bind.imp fun ds h1 r1 H1 e1 rh1 g1 vs rvs => ?_⟩
  split at g1
  · rename_i ps he
    obtain ⟨z, hz, po⟩ := post_of rh1 g1
    exact ⟨r1, ps, z, rds_vws rh1 rvs he, rh1.tr, hz, po⟩
  · exact False.elim g1
theorem snd_bltTy {T : String} {x : Str} {g0 : List PD → Option PD} {p : Pos} {e : Expr} {es : List Expr} {fs : Loc → Hd → Res (List D)} (hc : CallR X (.type T) (rCW X.K g0)) (hg : Gl X x) (hm : X.mg x = none) (hv : bootBuiltins x = some (.type T))
    (ha : PA X (e :: es) (tA X.K ca W fs)) (hn : x ≠ "__name__") (hdb : (x == ("__debug__" : Str)) = false) (hst : ∀ y ∈ e :: es, ∀ x p, y ≠ .Starred x p) :
    PE X (.Call (.Name x p) (e :: es) [] pos) (tE X.K ca W fun l h => (fs l h).bind fun ds h1 => match rdsOf h1 ds with
      | some ps => ofO h1 (g0 ps)
      | none => .bad) := by
  refine pe_imp (pe_callTy hc hg hm hv ha hn hdb (one_star (hst e List.mem_cons_self)) (any_star fun y hy => hst y (List.mem_cons_of_mem _ hy))) fun σ H Q ⟨r, l, h, rl, rh, g⟩ => ?_
  refine ⟨r, l, h, rl, rh, g.bind.imp fun ds h1 r1 H1 e1 rh1 g1 vs rvs => ?_⟩
  split at g1
  · rename_i ps he
    obtain ⟨z, hz, po⟩ := post_of rh1 g1
    exact ⟨r1, ps, z, rds_vws rh1 rvs he, rh1.tr, hz, po⟩
  · exact False.elim g1
/-- list(a) -/
theorem snd_lis {m : Bool} {x : Str} {p : Pos} (hg : Gl X x) (hm : X.mg x = none) (hv : bootBuiltins x = some (.type "list")) (ha : PE X a (tE X.K ca W fa)) (hn : x ≠ "__name__") (hdb : (x == ("__debug__" : Str)) = false) (hst : ∀ x p, a ≠ .Starred x p) :
    PE X (.Call (.Name x p) [a] [] pos) (tE X.K ca W fun l h => (fa l h).bind fun x h1 => match rd h1 x with
      | some (.list ds) => mkL m ds h1
      | some (.tuple ds) => mkL m ds h1
      | _ => .bad) := by
  refine pe_imp (pe_callTy call_list_of hg hm hv (pa_cons ha pa_nil (one_star hst)) hn hdb (one_star hst) rfl) fun σ H Q ⟨r, l, h, rl, rh, g⟩ => ?_
  refine ⟨r, l, h, rl, rh, g.bind.imp fun x h1 r1 H1 e1 rh1 g1 v rv => ?_⟩
  split at g1
  · rename_i ds ex
    obtain ⟨q, ys, rfl, h4, h5⟩ := (vw_of rh1 rv ex).list
    exact ⟨q, ys, rfl, .inl h4, new_list rh1 h5 g1⟩
  · rename_i ds ex
    obtain ⟨q, ys, rfl, h4, h5⟩ := (vw_of rh1 rv ex).tuple
    exact ⟨q, ys, rfl, .inr h4.sq, new_list rh1 h5 g1⟩
  · exact False.elim g1
/-! ### isinstance -/
def Cl.name : Cl → String
  | .int => "int"
  | .bool => "bool"
  | .str => "str"
  | .tuple => "tuple"
  | .list => "list"
  | .dict => "dict"
/-- the kinds of data, as numbers -/
def kindP : PD → _root_.Fin 7
  | .none => 0
  | .bool _ => 1
  | .int _ => 2
  | .str _ => 3
  | .list _ => 4
  | .tuple _ => 5
  | .dict _ => 6
def kindName (k : _root_.Fin 7) : String := match k with
  | 0 => "NoneType"
  | 1 => "bool"
  | 2 => "int"
  | 3 => "str"
  | 4 => "list"
  | 5 => "tuple"
  | 6 => "dict"
def isiK (k : _root_.Fin 7) (c : Cl) : Bool := match c with
  | .int => k == 1 || k == 2
  | .bool => k == 1
  | .str => k == 3
  | .tuple => k == 5
  | .list => k == 4
  | .dict => k == 6
def tyName (d : PD) : String := kindName (kindP d)
theorem kit_k (c : Cl) : ∀ k : _root_.Fin 7, kitB (kindName k) c.name = some (isiK k c) := by
  cases c <;> exact (by decide +kernel)
theorem kit_cl (d : PD) (c : Cl) : kitB (tyName d) c.name = some (isiP d c) := by
  have e : isiP d c = isiK (kindP d) c := by cases d <;> cases c <;> rfl
  rw [e]
  exact kit_k c (kindP d)
theorem ty_of {K : Frg} {r : Rho} {H : Hp} {v : V} {d : PD} (q : Vw K r H v d) (hx : exP d = false) : TyX K H v (.type (tyName d)) := by
  cases d with
  | none => cases q.non; exact .base .non
  | bool i => cases q.bool; exact .base (.bl _)
  | int i => cases q.int; exact .base (.int _)
  | str i => cases q.str; exact .base (.str _)
  | list ds =>
    obtain ⟨a, ys, rfl, h1, _⟩ := q.list
    rcases h1 with (h1 | ⟨o, h1⟩) | ⟨o, its, n, h1, h2, _⟩
    · exact .base (.lst h1)
    · exact .base (.frz h1)
    · exact .kList h1 h2
  | tuple ds =>
    obtain ⟨a, ys, rfl, h1, _⟩ := q.tuple
    rcases h1 with ⟨h1 | ⟨o, h1⟩, _⟩ | ⟨o, its, n, h1, h2, _⟩
    · exact .base (.tup h1)
    · exact .fTuple h1
    · exact .kTuple h1 h2
  | dict ds =>
    obtain ⟨a, ys, rfl, h1, _⟩ := q.dict hx
    rcases h1 with h1 | ⟨o, h1⟩
    · exact .base (.dK h1)
    · exact .fDict h1
theorem snd_isi {cl : Cl} {x y : Str} {p p2 : Pos} (hg : Gl X x) (hm : X.mg x = none) (hv : bootBuiltins x = some (.builtin "isinstance")) (hg2 : Gl X y) (hm2 : X.mg y = none) (hv2 : bootBuiltins y = some (.type cl.name)) (ha : PE X a (tE X.K ca W fa))
    (hn : x ≠ "__name__") (hdb : (x == ("__debug__" : Str)) = false) (hn2 : y ≠ "__name__") (hdb2 : (y == ("__debug__" : Str)) = false) (hst : ∀ x p, a ≠ .Starred x p) :
    PE X (.Call (.Name x p) [a, .Name y p2] [] pos) (tE X.K ca W fun l h => (fa l h).bind fun x h1 => match rd h1 x with
      | some p => if exP p then .bad else .ok (.dat (.bool (isiP p cl))) h1
      | none => .bad) := by
  have hc : PE X (.Name y p2) (tC (.ty cl.name)) := pe_bltn (v := .ty cl.name) hg2 hm2 hv2 rfl hn2 hdb2
  refine pe_imp (pe_callB call_isi hg hm hv (pa_cons ha (pa_cons hc pa_nil rfl) (one_star hst)) hn hdb (one_star hst) rfl) fun σ H Q ⟨r, l, h, rl, rh, g⟩ => ?_
  refine ⟨r, l, h, rl, rh, g.bind.imp fun x h1 r1 H1 e1 rh1 g1 v rv => ?_⟩
  split at g1
  · rename_i d ex
    cases hx : exP d with
    | true => rw [hx] at g1; exact False.elim g1
    | false =>
      rw [hx, if_neg Bool.false_ne_true] at g1
      exact ⟨v, .ty cl.name, .type (tyName d), .type cl.name, isiP d cl, rfl, .ty _, ty_of (vw_of rh1 rv ex) hx, kit_ty (kit_cl d cl), g1.ok rh1 _ (RP.bl _)⟩
  · exact False.elim g1
end
end Mi

/-! Mi: methods, and/or, targets, what is walked. -/
namespace Mi
open PySem PySem.Spec PyProof.Rows L2

/-! ### methods of lists -/
section
variable {X : Cx} {ca : Str → Option Addr} {W : WX} {o e : Expr} {es : List Expr} {fo : Loc → Hd → Res D} {fs : Loc → Hd → Res (List D)} {apos cpos : Pos}
def Mt.name : Mt → Str
  | .append => "append"
  | .extend => "extend"
  | .pop => "pop"
  | .popAt => "pop"
  | .clear => "clear"
/-- the rule of a method, by what the data's world says -/
def rMth (k : Mt) (K : Frg) (ca : Str → Option Addr) (W : WX) (σ : L2.St) : V → List V → Hp → VK → Prop := fun v vs H Q => ∃ r h x ds, RV K r H v x ∧ RVs K r H vs ds ∧ RH K r H h ∧ Go K ca W r H σ (mthRun k x ds h) (kQ K Q)
theorem lst_of {K : Frg} {r : Rho} {H : Hp} {h : Hd} {v : V} {x : D} (rh : RH K r H h) (rv : RV K r H v x) (hl : isLst h x = true) : ∃ n a xs ys, x = .ref n ∧ v = .ref a ∧ r.at_[n]? = some a ∧ h[n]? = some (.lst xs) ∧ H a = some (.lst ys) ∧ RPs K r H ys xs := by
  cases x with
  | ref n =>
    obtain ⟨a, h1, rfl⟩ := rv
    unfold isLst at hl
    dsimp only at hl
    split at hl
    · rename_i xs hx
      obtain ⟨ys, h2, h3⟩ := rh.ob n _ a hx h1
      exact ⟨n, a, xs, ys, rfl, rfl, h1, hx, h2, h3⟩
    · cases hl
  | _ => cases hl
theorem mth_lst {K : Frg} {r : Rho} {H : Hp} {σ : L2.St} {k : Mt} {x : D} {ds : List D} {h : Hd} {Q : D → Hd → Rho → Hp → Prop} (g : Go K ca W r H σ (mthRun k x ds h) Q) : isLst h x = true := by
  unfold mthRun at g
  split at g
  · rename_i n
    split at g
    · rename_i xs hx
      unfold isLst
      dsimp only
      rw [hx]
    · exact False.elim g
  · exact False.elim g
theorem mth_set {K : Frg} {r : Rho} {H : Hp} {σ : L2.St} {h : Hd} {n : Nat} {a : Addr} {zs : List PD} {ws : List V} {d : PD} {Q : VK} {v : V} (rh : RH K r H h) (h1 : r.at_[n]? = some a) (rp : RPs K r H ws zs)
    (g : Go K ca W r H σ (.ok (.dat d) (h.set n (.lst zs))) (kQ K Q)) (rv : RP K r H v d) : Q v (upd H a (.lst ws)) := by
  have hm : a ∈ r.at_ := List.mem_of_getElem? h1
  have e : Ext r H r (upd H a (.lst ws)) := .mut hm (rh.nohid hm)
  exact g r _ e (rh.set h1 ⟨ws, upd_same, rp.ext e⟩) v (RP.ext rv e)
theorem mth_get {K : Frg} {r : Rho} {H : Hp} {σ : L2.St} {k : Mt} {x : D} {ds : List D} {h : Hd} {v : V} {Q : D → Hd → Rho → Hp → Prop} (rh : RH K r H h) (rv : RV K r H v x) (g : Go K ca W r H σ (mthRun k x ds h) Q) :
    ∃ n a xs ys d zs, x = .ref n ∧ v = .ref a ∧ r.at_[n]? = some a ∧ H a = some (.lst ys) ∧ RPs K r H ys xs ∧ lstRun xs h k ds = some (d, zs) ∧ Go K ca W r H σ (.ok (.dat d) (h.set n (.lst zs))) Q := by
  obtain ⟨n, a, xs, ys, rfl, rfl, h3, h4, h5, h6⟩ := lst_of rh rv (mth_lst g)
  unfold mthRun at g
  dsimp only at g
  rw [h4] at g
  dsimp only at g
  split at g
  · rename_i d zs he
    exact ⟨n, a, xs, ys, d, zs, rfl, rfl, h3, h5, h6, he, g⟩
  · exact False.elim g
theorem rAppend_of {σ : L2.St} {v : V} {vs : List V} {H : Hp} {Q : VK} {K : Frg} (q : rMth .append K ca W σ v vs H Q) : rAppend v vs H Q := by
  obtain ⟨r, h, x, ds, rv, rvs, rh, g⟩ := q
  obtain ⟨n, a, xs, ys, d, zs, rfl, rfl, h3, h5, h6, he, g⟩ := mth_get rh rv g
  unfold lstRun at he
  split at he <;> (try (cases he; done)) <;> (try (rename_i hk; cases hk; done))
  rename_i d'
  cases rvs with
  | cons ra rn =>
    cases rn
    split at he
    · rename_i hz
      cases he
      exact ⟨a, ys, _, rfl, rfl, h5, by rw [h6.length]; exact hz, mth_set rh h3 (h6.append (.cons ra .nil)) g .non⟩
    · cases he
theorem rExtend_of {σ : L2.St} {v : V} {vs : List V} {H : Hp} {Q : VK} {K : Frg} (q : rMth .extend K ca W σ v vs H Q) : rExtend v vs H Q ∨ rExtendT K v vs H Q := by
  obtain ⟨r, h, x, ds, rv, rvs, rh, g⟩ := q
  obtain ⟨n, a, xs, ys, d, zs, rfl, rfl, h3, h5, h6, he, g⟩ := mth_get rh rv g
  unfold lstRun at he
  split at he <;> (try (cases he; done)) <;> (try (rename_i hk; cases hk; done))
  rename_i d'
  cases rvs with
  | cons ra rn =>
    cases rn
    split at he
    · rename_i ws hw
      split at he
      · rename_i hz
        cases he
        obtain ⟨b, us, rfl, h7, h8⟩ := (vx_of rh ra hw).list
        exact .inl ⟨a, b, ys, us, rfl, rfl, h5, h7, by rw [h6.length, h8.length]; exact hz, mth_set rh h3 (h6.append h8) g .non⟩
      · cases he
    · rename_i ws hw
      split at he
      · rename_i hz
        cases he
        obtain ⟨b, us, rfl, h7, h8⟩ := (vx_of rh ra hw).tuple
        exact .inr ⟨a, b, ys, us, rfl, rfl, h5, h7.sq, by rw [h6.length, h8.length]; exact hz, mth_set rh h3 (h6.append h8) g .non⟩
      · cases he
    · cases he
theorem mt_extendB : MtM X "list.extend" (fun v vs H Q => rExtend v vs H Q ∨ rExtendT X.K v vs H Q) := by
  intro pins s σ H x vs v us Q I rx rv h
  rcases h with h | h
  · exact mt_extend pins s σ H x vs v us Q I rx rv h
  · exact mt_extendT pins s σ H x vs v us Q I rx rv h
theorem RPs.dropLast {K : Frg} {r : Rho} {H : Hp} {ds : List PD} {vs : List V} (h : RPs K r H vs ds) : RPs K r H vs.dropLast ds.dropLast := by
  rw [List.dropLast_eq_take, List.dropLast_eq_take, h.length]
  exact h.take _
theorem rPop_of {σ : L2.St} {v : V} {vs : List V} {H : Hp} {Q : VK} {K : Frg} (q : rMth .pop K ca W σ v vs H Q) : rPop v vs H Q := by
  obtain ⟨r, h, x, ds, rv, rvs, rh, g⟩ := q
  obtain ⟨n, a, xs, ys, d, zs, rfl, rfl, h3, h5, h6, he, g⟩ := mth_get rh rv g
  unfold lstRun at he
  split at he <;> (try (cases he; done)) <;> (try (rename_i hk; cases hk; done))
  cases rvs
  split at he
  · rename_i d' hd
    cases he
    obtain ⟨y, hy, ry⟩ := h6.get hd
    exact ⟨a, ys, y, rfl, rfl, h5, by rw [h6.length]; exact hy, mth_set rh h3 h6.dropLast g ry⟩
  · cases he
theorem rPopAt_of {σ : L2.St} {v : V} {vs : List V} {H : Hp} {Q : VK} {K : Frg} (q : rMth .popAt K ca W σ v vs H Q) : rPopAt v vs H Q := by
  obtain ⟨r, h, x, ds, rv, rvs, rh, g⟩ := q
  obtain ⟨n, a, xs, ys, d, zs, rfl, rfl, h3, h5, h6, he, g⟩ := mth_get rh rv g
  unfold lstRun at he
  split at he <;> (try (cases he; done)) <;> (try (rename_i hk; cases hk; done))
  rename_i i hh
  cases rvs with
  | cons ra rn =>
    cases rn
    have ra' : RP K r H _ (.int i) := ra
    cases ra'
    split at he
    · rename_i hz
      cases hd : xs[i.toNat]? with
      | none => rw [hd] at he; cases he
      | some d' =>
        rw [hd] at he
        cases he
        obtain ⟨y, hy, ry⟩ := h6.get hd
        refine ⟨a, ys, i, i.toNat, y, rfl, rfl, h5, by omega, hz.2.2, ?_, hy, mth_set rh h3 (h6.eraseIdx _) g ry⟩
        exact seqIndex_of hz.1 (by rw [h6.length]; exact hz.2.1)
    · cases he
theorem rClear_of {σ : L2.St} {v : V} {vs : List V} {H : Hp} {Q : VK} {K : Frg} (q : rMth .clear K ca W σ v vs H Q) : rClear v vs H Q := by
  obtain ⟨r, h, x, ds, rv, rvs, rh, g⟩ := q
  obtain ⟨n, a, xs, ys, d, zs, rfl, rfl, h3, h5, h6, he, g⟩ := mth_get rh rv g
  unfold lstRun at he
  split at he <;> (try (cases he; done)) <;> (try (rename_i hk; cases hk; done))
  cases rvs
  cases he
  exact ⟨a, ys, rfl, rfl, h5, mth_set rh h3 .nil g .non⟩
/-- o.m(e, ..) -/
theorem snd_mth {k : Mt} {name : Str} {id : String} {rr : V → List V → Hp → VK → Prop} (slot : Slot "list" name id) (hty : typeOf (.builtin id) = pure (.type "method_descriptor")) (hmr : MtR X id rr) (hr : ∀ σ v vs H Q, rMth k X.K ca W σ v vs H Q → rr v vs H Q)
    (ho : PE X o (tE X.K ca W fo)) (ha : PA X (e :: es) (tA X.K ca W fs)) (hbase : attributeBase o name X.env (eval o X.env) = eval o X.env) (hline : (apos.endLine == cpos.line) = true) (hst : ∀ y ∈ e :: es, ∀ x p, y ≠ .Starred x p) (hlen : (e :: es).length < 30) :
    PE X (.Call (.Attribute o name apos) (e :: es) [] cpos) (tE X.K ca W fun l h => (fo l h).bind fun x h1 => if isLst h1 x then (fs l h1).bind fun ds h2 => mthRun k x ds h2 else .bad) := by
  have hfew : ((backTo cpos (starEach (e :: es) X.env)).all (fun x => !x.1) && (backToKw cpos (keywordEach [] X.env)).all (fun x => x.1.isSome)
      && decide ((e :: es).length + ([] : List Keyword).length + (if ([] : List Keyword).isEmpty then 0 else 1) < 30)) = true := by
    rw [all_star hst, decide_eq_true (by simpa using hlen)]
    rfl
  refine pe_imp (pe_bm PySem.F.plainAttrs_list slot hty hmr ho ha hbase hfew hline (one_star (hst e List.mem_cons_self)) (any_star fun y hy => hst y (List.mem_cons_of_mem _ hy))) fun σ H Q ⟨r, l, h, rl, rh, g⟩ => ?_
  refine ⟨r, l, h, rl, rh, g.bind.imp fun x h1 r1 H1 e1 rh1 g1 v rv => ?_⟩
  split at g1
  · rename_i hi
    obtain ⟨n, a, xs, ys, rfl, rfl, h3, h4, h5, h6⟩ := lst_of rh1 rv hi
    refine ⟨.inl ⟨rfl, ys, .inl (.inl h5)⟩, r1, l, h1, rl.ext e1, rh1, g1.bind.imp fun ds h2 r2 H2 e2 rh2 g2 vs rvs => ?_⟩
    exact hr σ _ _ _ _ ⟨r2, h2, .ref n, ds, rv.ext e2, rvs, rh2, g2⟩
  · exact False.elim g1
theorem snd_mth0 {k : Mt} {name : Str} {id : String} {rr : V → List V → Hp → VK → Prop} (slot : Slot "list" name id) (hty : typeOf (.builtin id) = pure (.type "method_descriptor")) (hmr : MtR X id rr) (hr : ∀ σ v vs H Q, rMth k X.K ca W σ v vs H Q → rr v vs H Q)
    (ho : PE X o (tE X.K ca W fo)) (hbase : attributeBase o name X.env (eval o X.env) = eval o X.env) (hline : (apos.endLine == cpos.line) = true) :
    PE X (.Call (.Attribute o name apos) [] [] cpos) (tE X.K ca W fun l h => (fo l h).bind fun x h1 => if isLst h1 x then (Res.ok [] h1).bind fun ds h2 => mthRun k x ds h2 else .bad) := by
  refine pe_imp (pe_bm0 PySem.F.plainAttrs_list slot hty hmr ho hbase hline) fun σ H Q ⟨r, l, h, rl, rh, g⟩ => ?_
  refine ⟨r, l, h, rl, rh, g.bind.imp fun x h1 r1 H1 e1 rh1 g1 v rv => ?_⟩
  split at g1
  · rename_i hi
    obtain ⟨n, a, xs, ys, rfl, rfl, h3, h4, h5, h6⟩ := lst_of rh1 rv hi
    exact ⟨.inl ⟨rfl, ys, .inl (.inl h5)⟩, hr σ _ _ _ _ ⟨r1, h1, .ref n, [], rv, .nil, rh1, g1⟩⟩
  · exact False.elim g1
end
end Mi

/-! Mi: and/or, targets, what is walked, comprehensions. -/
namespace Mi
open PySem PySem.Spec PyProof.Rows L2

section
variable {X : Cx} {ca : Str → Option Addr} {W : WX} {a b c : Expr} {rest : List Expr} {fa fb fc : Loc → Hd → Res D} {pos : Pos}
theorem snd_andV (ha : PE X a (tE X.K ca W fa)) (hb : PE X (.BoolOp .And (b :: rest) pos) (tE X.K ca W fb)) :
    PE X (.BoolOp .And (a :: b :: rest) pos) (tE X.K ca W fun l h => (fa l h).bind fun x h1 => (truD h1 x).bind fun b h2 => if b = true then fb l h2 else .ok x h2) := by
  refine pe_imp (pe_andT ha hb) fun σ H Q ⟨r, l, h, rl, rh, g⟩ => ?_
  refine ⟨r, l, h, rl, rh, g.bind.imp fun x h1 r1 H1 e1 rh1 g1 v rv => ?_⟩
  obtain ⟨k, h2, _, g2⟩ := tru_of rh1 rv g1.bind
  refine ⟨k, h2, ?_⟩
  cases k with
  | true => exact iteT (B := Q v H1) ⟨r1, l, h1, rl.ext e1, rh1, g2⟩
  | false => exact iteF (A := tE X.K ca W fb σ H1 Q) (Go.ok (a := x) g2 rh1 v rv)
theorem snd_orV (ha : PE X a (tE X.K ca W fa)) (hb : PE X (.BoolOp .Or (b :: rest) pos) (tE X.K ca W fb)) :
    PE X (.BoolOp .Or (a :: b :: rest) pos) (tE X.K ca W fun l h => (fa l h).bind fun x h1 => (truD h1 x).bind fun b h2 => if b = false then fb l h2 else .ok x h2) := by
  refine pe_imp (pe_orT ha hb) fun σ H Q ⟨r, l, h, rl, rh, g⟩ => ?_
  refine ⟨r, l, h, rl, rh, g.bind.imp fun x h1 r1 H1 e1 rh1 g1 v rv => ?_⟩
  obtain ⟨k, h2, _, g2⟩ := tru_of rh1 rv g1.bind
  refine ⟨k, h2, ?_⟩
  cases k with
  | true => exact iteT (B := tE X.K ca W fb σ H1 Q) (Go.ok (a := x) g2 rh1 v rv)
  | false => exact iteF (A := Q v H1) ⟨r1, l, h1, rl.ext e1, rh1, g2⟩
theorem pw_imp {e : Expr} {t t' : TT} (h : PW X e t) (i : ∀ σ H Q, t' σ H Q → t σ H Q) : PW X e t' := ⟨fun wh pins s σ H Q I w => h.run wh pins s σ H Q I (i σ H Q w)⟩
theorem snd_andT {ft fu : Loc → Hd → Res Bool} (ha : PT X a (tT X.K ca W ft)) (hb : PW X (.BoolOp .And (b :: rest) pos) (tT X.K ca W fu)) :
    PW X (.BoolOp .And (a :: b :: rest) pos) (tT X.K ca W fun l h => (ft l h).bind fun k h1 => if k = true then fu l h1 else .ok false h1) := by
  refine pw_imp (pw_and ha hb) fun σ H Q ⟨r, l, h, rl, rh, g⟩ => ?_
  refine ⟨r, l, h, rl, rh, g.bind.imp fun k h1 r1 H1 e1 rh1 g1 => ?_⟩
  cases k with
  | true => exact iteT (B := Q false H1) ⟨r1, l, h1, rl.ext e1, rh1, g1⟩
  | false => exact iteF (A := tT X.K ca W fu σ H1 Q) (Go.ok (a := false) g1 rh1)
theorem snd_orT {ft fu : Loc → Hd → Res Bool} (ha : PT X a (tT X.K ca W ft)) (hb : PW X (.BoolOp .Or (b :: rest) pos) (tT X.K ca W fu)) :
    PW X (.BoolOp .Or (a :: b :: rest) pos) (tT X.K ca W fun l h => (ft l h).bind fun k h1 => if k = false then fu l h1 else .ok true h1) := by
  refine pw_imp (pw_or ha hb) fun σ H Q ⟨r, l, h, rl, rh, g⟩ => ?_
  refine ⟨r, l, h, rl, rh, g.bind.imp fun k h1 r1 H1 e1 rh1 g1 => ?_⟩
  cases k with
  | true => exact iteT (B := tT X.K ca W fu σ H1 Q) (Go.ok (a := true) g1 rh1)
  | false => exact iteF (A := Q true H1) ⟨r1, l, h1, rl.ext e1, rh1, g1⟩
end

/-! ### targets -/
/-- the slots behind a target: those of the pattern may differ -/
def Agree (vs : List Nat) (σ σ' : L2.St) : Prop := σ'.length = σ.length ∧ ∀ i, i ∉ vs → σ'[i]? = σ[i]?
def gP (K : Frg) (p : Pt) : TG := fun v σ H Q => ∃ r l d l', RL K r H l σ ∧ RP K r H v d ∧ bindP p d l = some l' ∧ ∀ σ', RL K r H l' σ' → Agree p.slots σ σ' → Q σ' H
def gPs (K : Frg) (p : Pts) : TGs := fun vs σ H Q => ∃ r l ds l', RL K r H l σ ∧ RPs K r H vs ds ∧ bindPs p ds l = some l' ∧ ∀ σ', RL K r H l' σ' → Agree p.slots σ σ' → Q σ' H
theorem Agree.trans {vs us : List Nat} {a b c : L2.St} (h : Agree vs a b) (h' : Agree us b c) : Agree (vs ++ us) a c :=
  ⟨h'.1.trans h.1, fun i hi => by
    rw [List.mem_append, not_or] at hi
    exact (h'.2 i hi.2).trans (h.2 i hi.1)⟩
theorem Agree.refl (vs : List Nat) (a : L2.St) : Agree vs a a := ⟨rfl, fun _ _ => rfl⟩
section
variable {X : Cx} {pos : Pos}
theorem pg_imp {e : Expr} {t t' : TG} (h : PG X e t) (i : ∀ v σ H Q, t' v σ H Q → t v σ H Q) : PG X e t' := ⟨fun pins s σ H v u Q I rv w => h.run pins s σ H v u Q I rv (i v σ H Q w)⟩
theorem pgs_imp {e : List Expr} {t t' : TGs} (h : PGs X e t) (i : ∀ v σ H Q, t' v σ H Q → t v σ H Q) : PGs X e t' := ⟨fun pins s σ H v u Q I rv w => h.run pins s σ H v u Q I rv (i v σ H Q w)⟩
theorem snd_nm {i : Nat} {x : Str} (hN : X.N.Nodup) (hi : X.N[i]? = some x) (hx : L2.Loc X.env.scope x) (hf : X.fn x = true ∨ X.env.scope.names.lookup x = some .local) : PG X (.Name x pos) (gP X.K (.nm i)) := by
  refine pg_imp (pg_name hN hi hx hf) fun v σ H Q ⟨r, l, d, l', rl, rp, hb, k⟩ => ?_
  simp only [bindP] at hb
  cases hb
  refine k _ (rl.set (d := .dat d) rp i) ⟨by simp, fun j hj => ?_⟩
  have hne : i ≠ j := fun z => hj (by simp [Pt.slots, z])
  exact List.getElem?_set_ne hne
theorem snd_ps0 : PGs X [] (gPs X.K .nil) := by
  refine pgs_imp pgs_nil fun vs σ H Q ⟨r, l, ds, l', rl, rp, hb, k⟩ => ?_
  cases rp with
  | nil =>
    simp only [bindPs] at hb
    cases hb
    exact ⟨rfl, k σ rl (.refl _ _)⟩
  | cons _ _ => cases hb
theorem snd_ps {p : Pt} {q : Pts} {e : Expr} {es : List Expr} (h1 : PG X e (gP X.K p)) (h2 : PGs X es (gPs X.K q)) (hs : (assignEach (e :: es) X.env).map (·.2) = assign e X.env :: (assignEach es X.env).map (·.2)) : PGs X (e :: es) (gPs X.K (.cons p q)) := by
  refine pgs_imp (pgs_cons h1 h2 hs) fun vs σ H Q ⟨r, l, ds, l', rl, rp, hb, k⟩ => ?_
  cases rp with
  | nil => cases hb
  | @cons v vr d dr r1 rr =>
    have hb : (bindP p d l).bind (fun l1 => bindPs q dr l1) = some l' := hb
    cases hl : bindP p d l with
    | none => rw [hl] at hb; cases hb
    | some l1 =>
      rw [hl] at hb
      refine ⟨v, vr, rfl, r, l, d, l1, rl, r1, hl, fun σ1 rl1 ag1 => ⟨r, l1, dr, l', rl1, rr, hb, fun σ2 rl2 ag2 => k σ2 rl2 (ag1.trans ag2)⟩⟩
theorem snd_tp {ps : Pts} {es : List Expr} {k : Nat} {n : Nat} (hc : X.calm = true) (h : PGs X es (gPs X.K ps)) (hn : (assignEach es X.env).length = n) (hst : (assignEach es X.env).findIdx? (·.1) = none) (hz : ∀ ds l l', bindPs ps ds l = some l' → ds.length = n) : PG X (.Tuple es k pos) (gP X.K (.tp ps)) := by
  refine pg_imp (pg_tup hc h hn hst) fun v σ H Q ⟨r, l, d, l', rl, rp, hb, k⟩ => ?_
  cases d with
  | tuple ds =>
    simp only [bindP] at hb
    cases rp with
    | tup h1 h2 =>
      refine ⟨_, _, rfl, h1.sq, by rw [h2.length]; exact hz ds l l' hb, r, l, ds, l', rl, h2, hb, k⟩
  | _ => cases hb
end
/-- a target as a chain of instructions -/
def Pts.len : Pts → Nat
  | .nil => 0
  | .cons _ r => r.len + 1
theorem bindPs_len : ∀ (ps : Pts) (ds : List PD) (l l' : Loc), bindPs ps ds l = some l' → ds.length = ps.len
  | .nil, [], _, _, _ => rfl
  | .nil, _ :: _, _, _, h => by cases h
  | .cons p r, [], _, _, h => by cases h
  | .cons p r, d :: ds, l, l', h => by
    simp only [bindPs] at h
    cases hl : bindP p d l with
    | none => rw [hl] at h; cases h
    | some l1 =>
      rw [hl] at h
      have := bindPs_len r ds l1 l' h
      simp [Pts.len, this]
/-! ### wiping -/
theorem wipe_len (σ : L2.St) (vs : List Nat) : (wipe σ vs).length = σ.length := wipe_length σ vs
theorem wipeL_len (l : Loc) : ∀ vs : List Nat, (wipeL l vs).length = l.length
  | [] => rfl
  | v :: vs => by simp [wipeL, wipeL_len l vs]
theorem wipeL_some {l : Loc} {i : Nat} {d : D} : ∀ {vs : List Nat}, (wipeL l vs)[i]? = some (some d) → l[i]? = some (some d) ∧ i ∉ vs
  | [], h => ⟨h, by simp⟩
  | v :: vs, h => by
    simp only [wipeL] at h
    by_cases e : v = i
    · subst e
      by_cases hv : v < (wipeL l vs).length
      · rw [List.getElem?_set_self hv] at h; cases h
      · rw [List.getElem?_eq_none (by simpa using hv)] at h; cases h
    · rw [List.getElem?_set_ne e] at h
      obtain ⟨h1, h2⟩ := wipeL_some h
      exact ⟨h1, by simp only [List.mem_cons, not_or]; exact ⟨fun z => e z.symm, h2⟩⟩
theorem wipe_get {σ : L2.St} {i : Nat} : ∀ {vs : List Nat}, i ∉ vs → (wipe σ vs)[i]? = σ[i]?
  | [], _ => rfl
  | v :: vs, h => by
    rw [List.mem_cons, not_or] at h
    unfold wipe
    rw [List.getElem?_set_ne (fun z => h.1 z.symm), wipe_get h.2]
theorem wipe_none {σ : L2.St} {i : Nat} : ∀ {vs : List Nat}, i ∈ vs → i < σ.length → (wipe σ vs)[i]? = some none
  | [], h, _ => by cases h
  | v :: vs, h, hl => by
    unfold wipe
    by_cases e : v = i
    · subst e
      rw [List.getElem?_set_self (by rw [wipe_length]; exact hl)]
    · rw [List.getElem?_set_ne e]
      exact wipe_none ((List.mem_cons.mp h).resolve_left fun z => e z.symm) hl
theorem wipe_eq {σ σ' : L2.St} {vs : List Nat} (h : Agree vs σ σ') : wipe σ' vs = wipe σ vs := by
  apply List.ext_getElem?
  intro i
  by_cases hi : i ∈ vs
  · by_cases hl : i < σ.length
    · rw [wipe_none hi hl, wipe_none hi (by rw [h.1]; exact hl)]
    · rw [List.getElem?_eq_none (by rw [wipe_length, h.1]; omega), List.getElem?_eq_none (by rw [wipe_length]; omega)]
  · rw [wipe_get hi, wipe_get hi, h.2 i hi]
theorem wipe_wipe {σ : L2.St} {vs : List Nat} : wipe (wipe σ vs) vs = wipe σ vs := wipe_eq ⟨wipe_length σ vs, fun i hi => wipe_get hi⟩
theorem RL.wipe {K : Frg} {r : Rho} {H : Hp} {l : Loc} {σ : L2.St} (q : RL K r H l σ) (vs : List Nat) : RL K r H (wipeL l vs) (L2.wipe σ vs) := by
  refine ⟨by rw [wipeL_len, wipe_length]; exact q.1, fun i d h => ?_⟩
  obtain ⟨h1, h2⟩ := wipeL_some h
  obtain ⟨v, h3, h4⟩ := q.2 i d h1
  exact ⟨v, by rw [wipe_get h2]; exact h3, h4⟩

/-! ### what is walked -/
/-- a weaker way on: what is data stays, the heap grows at its end -/
structure Ex0 (r : Rho) (H : Hp) (r' : Rho) (H' : Hp) : Prop where
  stb : Stb r H r' H'
  pre : ∃ t, r'.at_ = r.at_ ++ t
theorem Ext.e0 {r r' : Rho} {H H' : Hp} (e : Ext r H r' H') : Ex0 r H r' H' := ⟨e.stb, e.pre⟩
theorem Ex0.trans {r r1 r2 : Rho} {H H1 H2 : Hp} (a : Ex0 r H r1 H1) (b : Ex0 r1 H1 r2 H2) : Ex0 r H r2 H2 := by
  refine ⟨a.stb.trans b.stb, ?_⟩
  obtain ⟨t, e1⟩ := a.pre
  obtain ⟨t', e2⟩ := b.pre
  exact ⟨t ++ t', by rw [e2, e1]; simp⟩
theorem RV.ext0 {K : Frg} {r r' : Rho} {H H' : Hp} {v : V} {d : D} (q : RV K r H v d) (e : Ex0 r H r' H') : RV K r' H' v d := by
  cases d with
  | dat d => exact RP.mono e.stb d v q
  | ref n =>
    obtain ⟨a, h1, h2⟩ := q
    obtain ⟨t, et⟩ := e.pre
    exact ⟨a, by rw [et, List.getElem?_append_left (List.getElem?_eq_some_iff.mp h1).1]; exact h1, h2⟩
  | scr ns =>
    obtain ⟨a, h1, h2⟩ := q
    exact ⟨a, h1, h2.mono e.stb⟩
theorem RL.ext0 {K : Frg} {r r' : Rho} {H H' : Hp} {l : Loc} {s : L2.St} (q : RL K r H l s) (e : Ex0 r H r' H') : RL K r' H' l s :=
  ⟨q.1, fun i d h => let ⟨v, h1, h2⟩ := q.2 i d h; ⟨v, h1, h2.ext0 e⟩⟩
structure ItOk (K : Frg) (J : It) (w : Walk) (S : Rho → Hp → Prop) : Prop where
  stab : ∀ r H r' H', S r H → Ex0 r H r' H' → S r' H'
  go : ∀ (i : Nat) d r H h, S r H → RH K r H h → w.stays h → w.items[i]? = some d → J.go i H ∧ ∀ x H', J.yld i H x H' → Same H H' ∧ RP K r H' x d
  stop : ∀ (i : Nat) r H h, S r H → RH K r H h → w.stays h → w.items.length ≤ i → J.stop i H
def tI (K : Frg) (ca : Str → Option Addr) (W : WX) (f : Loc → Hd → Res Walk) : TI := fun σ H R => ∃ r l h, RL K r H l σ ∧ RH K r H h ∧ Go K ca W r H σ (f l h) fun w _ r' H' => ∀ J S, ItOk K J w S → S r' H' → R J H'
section
variable {K : Frg} {a : Addr} {ds : List PD}
theorem it_list (src : Option (Nat × List PD)) (S : Rho → Hp → Prop) (st : ∀ r H r' H', S r H → Ex0 r H r' H' → S r' H') (hq : ∀ r H h, S r H → RH K r H h → Walk.stays ⟨ds, src⟩ h → ∃ ys, SqL K H a ys ∧ RPs K r H ys ds) : ItOk K (Itl K a) ⟨ds, src⟩ S := by
  refine ⟨st, fun i d r H h s rh w hd => ?_, fun i r H h s rh w hi => ?_⟩
  · obtain ⟨ys, h1, h2⟩ := hq r H h s rh w
    obtain ⟨v, h3, h4⟩ := h2.get hd
    refine ⟨⟨ys, v, h1, h3⟩, fun x H' hy => ?_⟩
    obtain ⟨rfl, hx⟩ := hy
    have e := hx ys h1
    rw [h3] at e
    cases e
    exact ⟨Same.refl _, h4⟩
  · obtain ⟨ys, h1, h2⟩ := hq r H h s rh w
    exact ⟨ys, h1, by rw [h2.length]; exact hi⟩
theorem it_tup : ItOk K (Itt K a) ⟨ds, none⟩ (fun r H => ∃ ys, StT K r H a ys ∧ RPs K r H ys ds) := by
  refine ⟨fun r H r' H' ⟨ys, h1, h2⟩ e => ⟨ys, h1.mono e.stb, RPs.mono e.stb _ _ h2⟩, fun i d r H h ⟨ys, h1, h2⟩ rh w hd => ?_, fun i r H h ⟨ys, h1, h2⟩ rh w hi => ?_⟩
  · obtain ⟨v, h3, h4⟩ := h2.get hd
    refine ⟨⟨ys, v, h1.sq, h3⟩, fun x H' hy => ?_⟩
    obtain ⟨rfl, hx⟩ := hy
    have e := hx ys h1.sq
    rw [h3] at e
    cases e
    exact ⟨Same.refl _, h4⟩
  · exact ⟨ys, h1.sq, by rw [h2.length]; exact hi⟩
theorem it_rng (lo : Int) (n : Nat) : ItOk K (L2.Itr lo n) ⟨(List.range n).map fun (k : Nat) => .int (lo + (k : Int)), none⟩ (fun _ _ => True) := by
  refine ⟨fun _ _ _ _ _ _ => trivial, fun i d r H h _ rh w hd => ?_, fun i r H h _ rh w hi => ?_⟩
  · dsimp only at hd
    rw [List.getElem?_map] at hd
    cases hr : (List.range n)[i]? with
    | none => rw [hr] at hd; cases hd
    | some k =>
      rw [hr] at hd
      cases hd
      obtain ⟨h1, h2⟩ := List.getElem?_eq_some_iff.mp hr
      rw [List.length_range] at h1
      rw [List.getElem_range] at h2
      subst h2
      refine ⟨h1, fun x H' hy => ?_⟩
      obtain ⟨rfl, rfl⟩ := hy
      exact ⟨Same.refl _, .int _⟩
  · dsimp only at hi
    rw [List.length_map, List.length_range] at hi
    exact hi
theorem it_str (z : Str) : ItOk K (Its z) ⟨z.cps.toList.map fun c => .str ⟨#[c]⟩, none⟩ (fun _ _ => True) := by
  refine ⟨fun _ _ _ _ _ _ => trivial, fun i d r H h _ rh w hd => ?_, fun i r H h _ rh w hi => ?_⟩
  · dsimp only at hd
    rw [List.getElem?_map] at hd
    cases hr : z.cps.toList[i]? with
    | none => rw [hr] at hd; cases hd
    | some c =>
      rw [hr] at hd
      cases hd
      have h1 : i < z.cps.size := by
        have := (List.getElem?_eq_some_iff.mp hr).1
        simpa using this
      refine ⟨h1, fun x H' hy => ?_⟩
      obtain ⟨rfl, c', hc, rfl⟩ := hy
      have e : z.cps[i]? = some c := by rw [← Array.getElem?_toList]; exact hr
      rw [hc] at e
      cases e
      exact ⟨Same.refl _, .str _⟩
  · dsimp only at hi
    rw [List.length_map] at hi
    show z.cps.size ≤ i
    simpa using hi
end
section
variable {X : Cx} {ca : Str → Option Addr} {W : WX} {a tg : Expr} {fa : Loc → Hd → Res D} {pos p : Pos}
theorem pi_imp {e : Expr} {t t' : TI} (h : PI X tg e t) (i : ∀ σ H R, t' σ H R → t σ H R) : PI X tg e t' := ⟨fun pins s σ H R I w => h.run pins s σ H R I (i σ H R w)⟩
theorem pi_or {e : Expr} {t t' : TI} (h : PI X tg e t) (h' : PI X tg e t') : PI X tg e (fun σ H R => t σ H R ∨ t' σ H R) := ⟨fun pins s σ H R I w => w.elim (fun z => h.run pins s σ H R I z) (fun z => h'.run pins s σ H R I z)⟩
theorem snd_seq (ha : PE X a (tE X.K ca W fa)) : PI X tg a (tI X.K ca W fun l h => (fa l h).bind fun x h1 => match seqOf h1 x with
    | some w => .ok w h1
    | none => .bad) := by
  refine pi_imp (pi_or (pi_list ha) (pi_or (pi_tup ha) (pi_str ha))) fun σ H R ⟨r, l, h, rl, rh, g⟩ => ?_
  have g := g.bind
  cases hf : fa l h with
  | bad => rw [hf] at g; exact False.elim g
  | exc z h1 => rw [hf] at g; exact .inl ⟨r, l, h, rl, rh, by rw [hf]; exact g⟩
  | ok x h1 =>
    rw [hf] at g
    have lst : (∀ r1 H1 v, Ext r H r1 H1 → RH X.K r1 H1 h1 → RV X.K r1 H1 v x → ∃ q, v = .ref q ∧ (∃ ys, SqL X.K H1 q ys) ∧ R (Itl X.K q) H1) → iList X.K (tE X.K ca W fa) σ H R := fun z => ⟨r, l, h, rl, rh, by
      rw [hf]
      exact fun r1 H1 e1 rh1 v rv => z r1 H1 v e1 rh1 rv⟩
    cases x with
    | dat d =>
      cases d with
      | list ds =>
        refine .inl (lst fun r1 H1 v e1 rh1 rv => ?_)
        have g1 := g r1 H1 e1 rh1
        cases rv with
        | lst h2 h3 h4 =>
          rename_i q ys
          exact ⟨q, rfl, ⟨ys, .inl (.inl h2)⟩, g1.ok rh1 _ _ (it_list none (fun r H => ∃ ys, H q = some (.lst ys) ∧ Off r q ∧ RPs X.K r H ys ds) (fun r H r' H' ⟨ys, z1, z2, z3⟩ e => ⟨ys, e.stb.ex _ _ z1 z2, (e.stb.rd _ _ (.inl z1) z2).2, RPs.mono e.stb _ _ z3⟩)
            (fun r H h ⟨ys, z1, z2, z3⟩ _ _ => ⟨ys, .inl (.inl z1), z3⟩)) ⟨ys, h2, h3, h4⟩⟩
      | tuple ds =>
        refine .inr (.inl ⟨r, l, h, rl, rh, ?_⟩)
        rw [hf]
        intro r1 H1 e1 rh1 v rv
        have g1 := g r1 H1 e1 rh1
        cases rv with
        | tup h2 h3 =>
          rename_i q ys
          exact ⟨q, rfl, ⟨ys, h2.sq⟩, g1.ok rh1 _ _ it_tup ⟨ys, h2, h3⟩⟩
      | str z =>
        refine .inr (.inr ⟨r, l, h, rl, rh, ?_⟩)
        rw [hf]
        intro r1 H1 e1 rh1 v rv
        have g1 := g r1 H1 e1 rh1
        cases rv
        exact ⟨z, rfl, g1.ok rh1 _ _ (it_str z) trivial⟩
      | _ => exact .inl (lst fun r1 H1 v e1 rh1 rv => False.elim (g r1 H1 e1 rh1))
    | scr ns =>
      refine .inl (lst fun r1 H1 v e1 rh1 rv => ?_)
      have g1 := g r1 H1 e1 rh1
      obtain ⟨q, rfl, h2⟩ := rv
      exact ⟨q, rfl, ⟨_, h2.sq⟩, g1.ok rh1 _ _ (it_list none (fun r H => ScL X.K r H q (ns.map V.int)) (fun r H r' H' z e => z.mono e.stb)
        (fun r H h z _ _ => ⟨_, z.sq, rps_ints ns⟩)) h2⟩
    | ref n =>
      refine .inl (lst fun r1 H1 v e1 rh1 rv => ?_)
      have g1 := g r1 H1 e1 rh1
      obtain ⟨q, h2, rfl⟩ := rv
      unfold seqOf at g1
      cases hn : h1[n]? with
      | none => simp only [hn] at g1; exact False.elim g1
      | some ob =>
        cases ob with
        | dct ds => simp only [hn] at g1; exact False.elim g1
        | lst ds =>
          simp only [hn] at g1
          obtain ⟨ys, h3, h4⟩ := rh1.ob n _ q hn h2
          exact ⟨q, rfl, ⟨ys, .inl (.inl h3)⟩, g1.ok rh1 _ _ (it_list (some (n, ds)) (fun r H => r.at_[n]? = some q) (fun r H r' H' z e => by
              obtain ⟨t, et⟩ := e.pre
              rw [et, List.getElem?_append_left (List.getElem?_eq_some_iff.mp z).1]
              exact z)
            (fun r H h z rh' w => by
              obtain ⟨ys, z1, z2⟩ := rh'.ob n _ q (w n ds rfl) z
              exact ⟨ys, .inl (.inl z1), z2⟩)) h2⟩
theorem snd_rng1 {e : Expr} {fs : Loc → Hd → Res (List D)} (hg : Gl X "range") (hm : X.mg "range" = none) (ha : PA X [e] (tA X.K ca W fs)) (hst : ∀ x p, e ≠ .Starred x p) (hone : ∀ l h ds h1, fs l h = .ok ds h1 → ds.length = 1) :
    PI X tg (.Call (.Name "range" p) [e] [] pos) (tI X.K ca W fun l h => (fs l h).bind fun ds h1 => match (datsOf ds).bind rngOf with
      | some ds => .ok ⟨ds, none⟩ h1
      | none => .bad) := by
  refine pi_imp (pi_range1 hg hm ha (one_star hst)) fun σ H R ⟨r, l, h, rl, rh, g⟩ => ?_
  have g := g.bind
  refine ⟨r, l, h, rl, rh, ?_⟩
  cases hf : fs l h with
  | bad => rw [hf] at g; exact g
  | exc z h1 => rw [hf] at g; exact g
  | ok ds h1 =>
    rw [hf] at g
    intro r1 H1 e1 rh1 vs rvs
    have g1 := g r1 H1 e1 rh1
    dsimp only at g1
    have hl := hone l h ds h1 hf
    cases hd : datsOf ds with
    | none => rw [hd] at g1; exact False.elim g1
    | some ps =>
      rw [hd] at g1
      have rp := dats_rps rvs hd
      have hlp : ps.length = 1 := by rw [← rp.length, rvs.length]; exact hl
      match ps, hlp, rp, g1 with
      | [d], _, rp, g1 =>
        cases rp with
        | cons r2 rn =>
          cases rn
          cases r2 with
          | int j =>
            simp only [Option.bind, rngOf] at g1
            split at g1
            · rename_i ds2 he
              split at he
              · rename_i hz
                cases he
                have it := it_rng (K := X.K) 0 j.toNat
                simp only [Int.zero_add] at it
                exact ⟨j, rfl, hz.1, hz.2, g1.ok rh1 _ _ it trivial⟩
              · cases he
            · exact False.elim g1
          | _ => exact False.elim g1
theorem snd_rng2 {e e2 : Expr} {fs : Loc → Hd → Res (List D)} (hg : Gl X "range") (hm : X.mg "range" = none) (ha : PA X [e, e2] (tA X.K ca W fs)) (hst : ∀ x p, e ≠ .Starred x p) (hst2 : ∀ x p, e2 ≠ .Starred x p) (hone : ∀ l h ds h1, fs l h = .ok ds h1 → ds.length = 2) :
    PI X tg (.Call (.Name "range" p) [e, e2] [] pos) (tI X.K ca W fun l h => (fs l h).bind fun ds h1 => match (datsOf ds).bind rngOf with
      | some ds => .ok ⟨ds, none⟩ h1
      | none => .bad) := by
  refine pi_imp (pi_range2 hg hm ha (by rw [one_star hst, one_star hst2]; rfl) (by rw [one_star hst2]; rfl)) fun σ H R ⟨r, l, h, rl, rh, g⟩ => ?_
  have g := g.bind
  refine ⟨r, l, h, rl, rh, ?_⟩
  cases hf : fs l h with
  | bad => rw [hf] at g; exact g
  | exc z h1 => rw [hf] at g; exact g
  | ok ds h1 =>
    rw [hf] at g
    intro r1 H1 e1 rh1 vs rvs
    have g1 := g r1 H1 e1 rh1
    dsimp only at g1
    have hl := hone l h ds h1 hf
    cases hd : datsOf ds with
    | none => rw [hd] at g1; exact False.elim g1
    | some ps =>
      rw [hd] at g1
      have rp := dats_rps rvs hd
      have hlp : ps.length = 2 := by rw [← rp.length, rvs.length]; exact hl
      match ps, hlp, rp, g1 with
      | [d, d2], _, rp, g1 =>
        cases rp with
        | cons r2 rn =>
          cases rn with
          | cons r3 rn =>
            cases rn
            cases r2 with
            | int i =>
              cases r3 with
              | int j =>
                simp only [Option.bind, rngOf] at g1
                split at g1
                · rename_i ds2 he
                  split at he
                  · rename_i hz
                    cases he
                    exact ⟨i, j, rfl, ⟨hz.1.1, hz.1.2, hz.2.1, hz.2.2⟩, g1.ok rh1 _ _ (it_rng i (j - i).toNat) trivial⟩
                  · cases he
                · exact False.elim g1
              | _ => exact False.elim g1
            | _ => exact False.elim g1
end
end Mi

/-! Mi: comprehensions. -/
namespace Mi
open PySem PySem.Spec PyProof.Rows L2

section
variable {p : Pt} {w : Walk} {tst : Loc → Hd → Res Bool} {elt : Loc → Hd → Res D} {l : Loc}
theorem lcRun_nil {acc ds : List PD} {h h2 : Hd} (e : lcRun p w tst elt l [] acc h = .ok ds h2) : w.stays h ∧ ds = acc ∧ h2 = h := by
  unfold lcRun at e
  split at e
  · rename_i hs
    cases e
    exact ⟨hs, rfl, rfl⟩
  · cases e
theorem lcRun_cons {d : PD} {rest acc ds : List PD} {h h2 : Hd} (e : lcRun p w tst elt l (d :: rest) acc h = .ok ds h2) :
    w.stays h ∧ ∃ l' b h1, bindP p d (wipeL l p.slots) = some l' ∧ tst l' h = .ok b h1 ∧
      ((b = false ∧ lcRun p w tst elt l rest acc h1 = .ok ds h2) ∨ (b = true ∧ ∃ y h3, elt l' h1 = .ok (.dat y) h3 ∧ acc.length < sizeLine ∧ lcRun p w tst elt l rest (acc ++ [y]) h3 = .ok ds h2)) := by
  rw [lcRun] at e
  split at e
  · rename_i hs
    refine ⟨hs, ?_⟩
    split at e
    · cases e
    · rename_i l' hb
      cases ht : tst l' h with
      | bad => rw [ht] at e; cases e
      | exc z h1 => rw [ht] at e; cases e
      | ok b h1 =>
        rw [ht] at e
        refine ⟨l', b, h1, hb, ht, ?_⟩
        cases b with
        | false => exact .inl ⟨rfl, e⟩
        | true =>
          refine .inr ⟨rfl, ?_⟩
          cases he : elt l' h1 with
          | bad => simp only [Res.nox, Res.bind, he] at e; cases e
          | exc z h3 => simp only [Res.nox, Res.bind, he] at e; cases e
          | ok y h3 =>
            simp only [Res.nox, Res.bind, he] at e
            cases y with
            | dat y =>
              dsimp only at e
              simp only [if_true] at e
              split at e
              · rename_i hz
                exact ⟨y, h3, rfl, hz, e⟩
              · cases e
            | ref n => cases e
            | scr ns => cases e
  · cases e
theorem lcRun_noexc : ∀ (items acc : List PD) (h : Hd) (x : Xc) (h2 : Hd), lcRun p w tst elt l items acc h ≠ .exc x h2
  | [], acc, h, x, h2 => by
    unfold lcRun
    split <;> exact fun z => by cases z
  | d :: rest, acc, h, x, h2 => by
    rw [lcRun]
    split
    · split
      · exact fun z => by cases z
      · rename_i l' hb
        cases ht : tst l' h with
        | bad => exact fun z => by cases z
        | exc z h1 => exact fun z => by cases z
        | ok b h1 =>
          simp only [Res.nox, Res.bind]
          cases b with
          | false => exact lcRun_noexc rest acc h1 x h2
          | true =>
            simp only [if_true]
            cases he : elt l' h1 with
            | bad => exact fun z => by cases z
            | exc z h3 => exact fun z => by cases z
            | ok y h3 =>
              cases y with
              | dat y =>
                dsimp only
                split
                · exact lcRun_noexc rest _ h3 x h2
                · exact fun z => by cases z
              | ref n => exact fun z => by cases z
              | scr ns => exact fun z => by cases z
    · exact fun z => by cases z
end

theorem Stb.hide {r : Rho} {H : Hp} {p : Addr} {o : HO} (hp : H p = none) : Stb r H (r.hide p) (upd H p o) :=
  ⟨fun a u x y => ⟨rd_upd x (rd_ne x hp), y.1, fun z => (List.mem_cons.mp z).elim (rd_ne x hp) y.2⟩, fun a xs x y => by rw [upd_ne (ne_of_none x hp)]; exact x⟩
theorem off_hide {r : Rho} {p a : Addr} (h : Off (r.hide p) a) : a ≠ p ∧ Off r a := ⟨fun z => h.2 (by rw [z]; exact List.mem_cons_self), h.1, fun z => h.2 (List.mem_cons_of_mem _ z)⟩
theorem Stb.hid {r : Rho} {H : Hp} {p : Addr} {o : HO} : Stb (r.hide p) H (r.hide p) (upd H p o) :=
  ⟨fun a u x y => ⟨rd_upd x (off_hide y).1, y⟩, fun a xs x y => by rw [upd_ne (off_hide y).1]; exact x⟩
/-- the state within a comprehension: the new list at D is hidden -/
structure LcSt (K : Frg) (S : Rho → Hp → Prop) (l : Loc) (σ : L2.St) (D : Addr) (r1 : Rho) (H1 : Hp) (r0 : Rho) (H : Hp) (h : Hd) (acc : List PD) (av : List V) : Prop where
  e : Ext r1 H1 r0 H
  rl : RL K (r0.hide D) H l σ
  rh : RH K (r0.hide D) H h
  s : S (r0.hide D) H
  d : H D = some (.lst av)
  a : RPs K (r0.hide D) H av acc
section
variable {K : Frg} {S : Rho → Hp → Prop} {l : Loc} {σ : L2.St} {D : Addr} {r1 r0 : Rho} {H1 H : Hp} {h : Hd} {acc : List PD} {av : List V} {J : It} {w : Walk}
theorem LcSt.start (hD : H1 D = none) (it : ItOk K J w S) (rl : RL K r1 H1 l σ) (rh : RH K r1 H1 h) (s : S r1 H1) : LcSt K S l σ D r1 H1 r1 (upd H1 D (.lst [])) h [] [] := by
  have st : Ex0 r1 H1 (r1.hide D) (upd H1 D (.lst [])) := ⟨.hide hD, ⟨[], by simp [Rho.hide]⟩⟩
  exact ⟨.same rh.tr (same_new hD), rl.ext0 st, rh.hide hD, it.stab _ _ _ _ s st, upd_same, .nil⟩
/-- the heap goes on -/
theorem LcSt.on (q : LcSt K S l σ D r1 H1 r0 H h acc av) (hD : H1 D = none) (it : ItOk K J w S) {r' : Rho} {H' : Hp} {h' : Hd} (e : Ext (r0.hide D) H r' H') (rh : RH K r' H' h') : ∃ r0', r' = r0'.hide D ∧ LcSt K S l σ D r1 H1 r0' H' h' acc av := by
  obtain ⟨at', hid'⟩ := r'
  have hh : hid' = D :: r0.hid := e.hd
  subst hh
  refine ⟨⟨at', r0.hid⟩, rfl, ⟨⟨⟨fun a u x y => ?_, fun a xs x y => ?_⟩, ?_, q.e.hd, fun a ha => ?_⟩, q.rl.ext0 e.e0, rh, it.stab _ _ _ _ q.s e.e0, ?_, q.a.ext e⟩⟩
  · obtain ⟨x1, y1⟩ := q.e.stb.rd a u x y
    have hne : a ≠ D := rd_ne x hD
    have of : Off (r0.hide D) a := ⟨y1.1, fun z => (List.mem_cons.mp z).elim hne y1.2⟩
    obtain ⟨x2, y2⟩ := e.stb.rd a u x1 of
    exact ⟨x2, (off_hide (r := ⟨at', r0.hid⟩) (p := D) y2).2⟩
  · have y1 := (q.e.stb.rd a _ (.inl x) y).2
    have hne : a ≠ D := ne_of_none x hD
    exact e.stb.ex a xs (q.e.stb.ex a xs x y) ⟨y1.1, fun z => (List.mem_cons.mp z).elim hne y1.2⟩
  · obtain ⟨t, e1⟩ := q.e.pre
    obtain ⟨t', e2⟩ := e.pre
    exact ⟨t ++ t', by
      have e2' : at' = r0.at_ ++ t' := e2
      show at' = _
      rw [e2', e1]
      simp⟩
  · have h1 : a ∈ r0.hid := by rw [q.e.hd]; exact ha
    exact (e.hk a (List.mem_cons_of_mem _ h1)).trans (q.e.hk a ha)
  · exact (e.hk D List.mem_cons_self).trans q.d
/-- one more item -/
theorem LcSt.put (q : LcSt K S l σ D r1 H1 r0 H h acc av) (hD : H1 D = none) (rh1 : ∀ a ∈ r1.hid, H1 a ≠ none) (it : ItOk K J w S) {v : V} {d : PD} (rv : RP K (r0.hide D) H v d) : LcSt K S l σ D r1 H1 r0 (upd H D (.lst (av ++ [v]))) h (acc ++ [d]) (av ++ [v]) := by
  have st : Ex0 (r0.hide D) H (r0.hide D) (upd H D (.lst (av ++ [v]))) := ⟨.hid, ⟨[], by simp⟩⟩
  refine ⟨⟨⟨fun a u x y => ?_, fun a xs x y => ?_⟩, q.e.pre, q.e.hd, fun a ha => ?_⟩, q.rl.ext0 st, ⟨q.rh.nd, q.rh.len, fun n o a h1 h2 => ?_, fun a ha => ⟨?_, (q.rh.hd a ha).2⟩⟩, it.stab _ _ _ _ q.s st, upd_same, RPs.mono st.stb _ _ (q.a.append (.cons rv .nil))⟩
  · obtain ⟨x1, y1⟩ := q.e.stb.rd a u x y
    exact ⟨rd_upd x1 (rd_ne x hD), y1⟩
  · rw [upd_ne (ne_of_none x hD)]
    exact q.e.stb.ex a xs x y
  · have hne : a ≠ D := fun z => rh1 a ha (by rw [z]; exact hD)
    rw [upd_ne hne]
    exact q.e.hk a ha
  · have hne : a ≠ D := fun z => (q.rh.hd D List.mem_cons_self).2 (by rw [← z]; exact List.mem_of_getElem? h2)
    exact (q.rh.ob n o a h1 h2).keep st.stb (upd_ne hne)
  · by_cases z : a = D
    · rw [z, upd_same]; exact fun z => by cases z
    · rw [upd_ne z]; exact (q.rh.hd a ha).1
/-- the new list comes into sight -/
theorem LcSt.fin {ca : Str → Option Addr} {W : WX} {m : Bool} {Q : VK} (q : LcSt K S l σ D r1 H1 r0 H h acc av) (hD : H1 D = none) (rh1 : ∀ a ∈ r1.hid, H1 a ≠ none) (g : Go K ca W r1 H1 σ (mkL m acc h) (kQ K Q)) : Q (.ref D) H := by
  have hDa : D ∉ r0.at_ := (q.rh.hd D List.mem_cons_self).2
  have hDh : D ∉ r0.hid := fun z => rh1 D (by rw [← q.e.hd]; exact z) hD
  cases m with
  | false =>
    have st : Stb (r0.hide D) H r0 H := ⟨fun a u x y => ⟨x, (off_hide y).2⟩, fun a xs x _ => x⟩
    refine g r0 H q.e ⟨q.rh.nd, q.rh.len, fun n o a h1 h2 => (q.rh.ob n o a h1 h2).keep st rfl, fun a ha => q.rh.hd a (List.mem_cons_of_mem _ ha)⟩ _ (RP.lst q.d ⟨hDa, hDh⟩ (RPs.mono st _ _ q.a))
  | true =>
    have st : Stb (r0.hide D) H (r0.push D) H := ⟨fun a u x y => ⟨x, fun z => (List.mem_append.mp z).elim (off_hide y).2.1 (fun z => (off_hide y).1 (by simpa using z)), (off_hide y).2.2⟩, fun a xs x _ => x⟩
    have e : Ext r1 H1 (r0.push D) H := by
      refine ⟨⟨fun a u x y => ?_, q.e.stb.ex⟩, ?_, q.e.hd, q.e.hk⟩
      · obtain ⟨x1, y1⟩ := q.e.stb.rd a u x y
        exact ⟨x1, fun z => (List.mem_append.mp z).elim y1.1 (fun z => rd_ne x hD (by simpa using z)), y1.2⟩
      · obtain ⟨t, e1⟩ := q.e.pre
        exact ⟨t ++ [D], by simp [Rho.push, e1]⟩
    have hl : r0.at_.length = h.length := q.rh.len
    refine g (r0.push D) H e ⟨?_, by simp [Rho.push, hl], fun n o a h1 h2 => ?_, fun a ha => ?_⟩ _ ⟨D, ?_, rfl⟩
    · show (r0.at_ ++ [D]).Nodup
      rw [List.nodup_append]
      refine ⟨q.rh.nd, by simp, fun x hx y hy z => ?_⟩
      have ey : y = D := by simpa using hy
      subst ey
      subst z
      exact hDa hx
    · have h2 : (r0.at_ ++ [D])[n]? = some a := h2
      by_cases hn : n < h.length
      · rw [List.getElem?_append_left hn] at h1
        rw [List.getElem?_append_left (by rw [hl]; exact hn)] at h2
        exact (q.rh.ob n o a h1 h2).keep st rfl
      · have e1 : n = h.length := by
          have := (List.getElem?_eq_some_iff.mp h1).1
          simp at this
          omega
        subst e1
        rw [List.getElem?_append_right (Nat.le_refl _)] at h1
        rw [← hl, List.getElem?_append_right (Nat.le_refl _)] at h2
        simp at h1 h2
        subst h1
        subst h2
        exact ⟨av, q.d, RPs.mono st _ _ q.a⟩
    · obtain ⟨z1, z2⟩ := q.rh.hd a (List.mem_cons_of_mem _ ha)
      refine ⟨z1, fun z => (List.mem_append.mp z).elim z2 fun z => ?_⟩
      have ey : a = D := by simpa using z
      exact hDh (by rw [← ey]; exact ha)
    · rw [← hl]
      simp [Rho.push]
end
abbrev W0 : WX := fun _ _ _ _ => False
section
variable {K : Frg} {ca : Str → Option Addr} {W : WX}
theorem lc_read {p : Pt} {fi : Loc → Hd → Res Walk} {ft : Loc → Hd → Res Bool} {fe : Loc → Hd → Res D} {m : Bool} {σ : L2.St} {H : Hp} {Q : VK}
    (q : tE K ca W (fun l h => (fi l h).bind fun w h1 => (lcRun p w ft fe l w.items [] h1).bind fun ds h2 => mkL m ds h2) σ H Q) : tLc (tI K ca W fi) (gP K p) (tT K ca W0 ft) (tE K ca W0 fe) p.slots σ H Q := by
  obtain ⟨r, l, h, rl, rh, g⟩ := q
  refine ⟨r, l, h, rl, rh, g.bind.imp fun w h1 r1 H1 e1 rh1 g1 J S it s1 D hD => ?_⟩
  have hh : ∀ a ∈ r1.hid, H1 a ≠ none := fun a ha => (rh1.hd a ha).1
  obtain ⟨ds, h2, hR⟩ : ∃ ds h2, lcRun p w ft fe l w.items [] h1 = .ok ds h2 := by
    cases hR : lcRun p w ft fe l w.items [] h1 with
    | ok ds h2 => exact ⟨ds, h2, rfl⟩
    | exc x h2 => exact absurd hR (lcRun_noexc _ _ _ _ _)
    | bad => rw [hR] at g1; exact False.elim g1
  rw [hR] at g1
  have g1 : Go K ca W r1 H1 σ (mkL m ds h2) (kQ K Q) := g1
  refine ⟨fun i n H => n = w.items.length - i ∧ i ≤ w.items.length ∧ ∃ r0 h acc av, LcSt K S l σ D r1 H1 r0 H h acc av ∧ lcRun p w ft fe l (w.items.drop i) acc h = .ok ds h2,
    ⟨_, rfl, Nat.zero_le _, r1, h1, [], [], .start hD it (rl.ext e1) rh1 s1, by rw [List.drop_zero]; exact hR⟩, ?_⟩
  rintro i n H ⟨rfl, hi, r0, h, acc, av, st, hL⟩
  by_cases hlt : i < w.items.length
  · rw [List.drop_eq_getElem_cons hlt] at hL
    obtain ⟨hs, l', b, h3, hb, ht, hrest⟩ := lcRun_cons hL
    obtain ⟨go, yl⟩ := it.go i _ _ _ _ st.s st.rh hs (List.getElem?_eq_getElem hlt)
    refine .inr ⟨go, fun H' => w.items.length - (i + 1) = w.items.length - (i + 1) ∧ i + 1 ≤ w.items.length ∧ ∃ r0 h acc av, LcSt K S l σ D r1 H1 r0 H' h acc av ∧ lcRun p w ft fe l (w.items.drop (i + 1)) acc h = .ok ds h2, fun H' q => ⟨_, by omega, q⟩, fun x H' hy => ?_⟩
    obtain ⟨sm, rx⟩ := yl x H' hy
    obtain ⟨r0', er, st'⟩ := st.on hD it (Ext.same st.rh.tr sm) (st.rh.same sm)
    have er' : r0' = r0 := by
      cases r0; cases r0'
      simp only [Rho.hide, Rho.mk.injEq, List.cons.injEq] at er ⊢
      exact ⟨er.1.symm, er.2.2.symm⟩
    subst er'
    refine ⟨r0'.hide D, wipeL l p.slots, _, l', st'.rl.wipe p.slots, rx, hb, fun σ2 rl2 ag => ⟨by rw [wipe_eq ag, wipe_wipe], r0'.hide D, l', h, rl2, st'.rh, ?_⟩⟩
    rw [ht]
    intro r3 H3 e3 rh3
    obtain ⟨r4, rfl, st3⟩ := st'.on hD it e3 rh3
    rcases hrest with ⟨rfl, hL⟩ | ⟨rfl, y, h5, hy5, hz, hL⟩
    · dsimp only [kT]
      rw [if_neg Bool.false_ne_true]
      exact ⟨rfl, hlt, r4, h3, acc, av, st3, hL⟩
    · dsimp only [kT]
      rw [if_pos rfl]
      refine ⟨r4.hide D, l', h3, rl2.ext e3, rh3, ?_⟩
      rw [hy5]
      intro r5 H5 e5 rh5 v rv
      obtain ⟨r6, rfl, st5⟩ := st3.on hD it e5 rh5
      exact ⟨av, st5.d, by rw [st5.a.length]; exact hz, rfl, hlt, r6, h5, acc ++ [y], av ++ [v], st5.put hD hh it rv, hL⟩
  · have e : i = w.items.length := by omega
    subst e
    rw [List.drop_length] at hL
    obtain ⟨hs, rfl, rfl⟩ := lcRun_nil hL
    exact .inl ⟨it.stop _ _ _ _ st.s st.rh hs (Nat.le_refl _), st.fin hD hh g1⟩
end
end Mi

/-! Mi: statements. -/
namespace Mi
open PySem PySem.Spec PyProof.Rows L2

def GoS (K : Frg) (ca : Str → Option Addr) (W : WX) (Dn : Ends) (r : Rho) (H : Hp) (o : Out) : Prop := match o with
  | .nx l h => ∀ r' H' σ', Ext r H r' H' → RH K r' H' h → RL K r' H' l σ' → Dn.nx σ' H'
  | .bk l h => ∀ r' H' σ', Ext r H r' H' → RH K r' H' h → RL K r' H' l σ' → Dn.bk σ' H'
  | .ct l h => ∀ r' H' σ', Ext r H r' H' → RH K r' H' h → RL K r' H' l σ' → Dn.ct σ' H'
  | .rt d h => ∀ r' H' v, Ext r H r' H' → RH K r' H' h → RV K r' H' v d → Dn.rt v H'
  | .exc x l h => ∀ r' H' σ' cls dd, Ext r H r' H' → RH K r' H' h → RL K r' H' l σ' → RX K ca r' H' x cls dd → W cls dd σ' H'
  | .bad => False
def tS (K : Frg) (ca : Str → Option Addr) (W : WX) (g : Loc → Hd → Out) : TS := fun Dn σ H => ∃ r l h, RL K r H l σ ∧ RH K r H h ∧ GoS K ca W Dn r H (g l h)
section
variable {K : Frg} {ca : Str → Option Addr} {W : WX} {r r' : Rho} {H H' : Hp} {σ : L2.St} {Dn Dm : Ends}
theorem GoS.mono {o : Out} (g : GoS K ca W Dn r H o) (e : Ext r H r' H') : GoS K ca W Dn r' H' o := by
  cases o with
  | nx l h => exact fun r1 H1 s1 e1 q1 q2 => g r1 H1 s1 (e.trans e1) q1 q2
  | bk l h => exact fun r1 H1 s1 e1 q1 q2 => g r1 H1 s1 (e.trans e1) q1 q2
  | ct l h => exact fun r1 H1 s1 e1 q1 q2 => g r1 H1 s1 (e.trans e1) q1 q2
  | rt d h => exact fun r1 H1 s1 e1 q1 q2 => g r1 H1 s1 (e.trans e1) q1 q2
  | exc x l h => exact fun r1 H1 s1 c d e1 q1 q2 q3 => g r1 H1 s1 c d (e.trans e1) q1 q2 q3
  | bad => exact g
theorem Go.of_out {α : Type} {l : Loc} {x : Res α} {f : α → Hd → Out} (rl : RL K r H l σ) (g : GoS K ca W Dn r H (x.out l f)) : Go K ca W r H σ x fun a h' r' H' => GoS K ca W Dn r' H' (f a h') := by
  cases x with
  | ok a h => exact fun r1 H1 e1 q => GoS.mono (o := f a h) g e1
  | exc x h => exact fun r1 H1 e1 q cls dd rx => g r1 H1 σ cls dd e1 q (rl.ext e1) rx
  | bad => exact g
end
theorem RVs.one {K : Frg} {r : Rho} {H : Hp} {vs : List V} {d : D} (h : RVs K r H vs [d]) : ∃ v, vs = [v] ∧ RV K r H v d := by
  cases h with
  | cons h1 h2 => cases h2; exact ⟨_, rfl, h1⟩
theorem RVs.two {K : Frg} {r : Rho} {H : Hp} {vs : List V} {d e : D} (h : RVs K r H vs [d, e]) : ∃ v w, vs = [v, w] ∧ RV K r H v d ∧ RV K r H w e := by
  cases h with
  | cons h1 h2 =>
    obtain ⟨w, rfl, h3⟩ := h2.one
    exact ⟨_, w, rfl, h1, h3⟩
theorem RVs.three {K : Frg} {r : Rho} {H : Hp} {vs : List V} {d e f : D} (h : RVs K r H vs [d, e, f]) : ∃ v w u, vs = [v, w, u] ∧ RV K r H v d ∧ RV K r H w e ∧ RV K r H u f := by
  cases h with
  | cons h1 h2 =>
    obtain ⟨w, u, rfl, h3, h4⟩ := h2.two
    exact ⟨_, w, u, rfl, h1, h3, h4⟩
theorem setAll0 {ds : List D} {l l' : Loc} (h : setAll [] ds l = some l') : ds = [] ∧ l' = l := by
  cases ds with
  | nil => cases h; exact ⟨rfl, rfl⟩
  | cons d ds => cases h
theorem setAll1 {i : Nat} {is : List Nat} {ds : List D} {l l' : Loc} (h : setAll (i :: is) ds l = some l') : ∃ d r, ds = d :: r ∧ setAll is r (l.set i (some d)) = some l' := by
  cases ds with
  | nil => cases h
  | cons d ds => exact ⟨d, ds, rfl, h⟩
theorem setAll2 {i j : Nat} {ds : List D} {l l' : Loc} (h : setAll [i, j] ds l = some l') : ∃ d e, ds = [d, e] ∧ l' = (l.set i (some d)).set j (some e) := by
  obtain ⟨d, r, rfl, h1⟩ := setAll1 h
  obtain ⟨e, r2, rfl, h2⟩ := setAll1 h1
  obtain ⟨rfl, rfl⟩ := setAll0 h2
  exact ⟨d, e, rfl, rfl⟩
theorem setAll3 {i j k : Nat} {ds : List D} {l l' : Loc} (h : setAll [i, j, k] ds l = some l') : ∃ d e f, ds = [d, e, f] ∧ l' = ((l.set i (some d)).set j (some e)).set k (some f) := by
  obtain ⟨d, r, rfl, h1⟩ := setAll1 h
  obtain ⟨e, f, rfl, rfl⟩ := setAll2 h1
  exact ⟨d, e, f, rfl, rfl⟩
theorem putRun_some {h h' : Hd} {x y z : D} (e : putRun h x y z = some h') : ∃ n xs d k j, y = .ref n ∧ x = .dat d ∧ z = .dat (.int k) ∧ h[n]? = some (.lst xs) ∧ L2.ixN xs.length k = some j ∧ h' = h.set n (.lst (xs.set j d)) := by
  cases y with
  | ref n =>
    cases hn : h[n]? with
    | none => simp only [putRun, hn] at e; cases e
    | some ob =>
      cases ob with
      | dct es => simp only [putRun, hn] at e; cases e
      | lst xs =>
        simp only [putRun, hn] at e
        cases x with
        | dat d =>
          cases z with
          | dat z =>
            cases z with
            | int k =>
              dsimp only at e
              cases hj : L2.ixN xs.length k with
              | none => rw [hj] at e; cases e
              | some j =>
                rw [hj] at e
                cases e
                exact ⟨n, xs, d, k, j, rfl, rfl, rfl, hn, hj, rfl⟩
            | _ => cases e
          | ref _ => cases e
          | scr _ => cases e
        | ref _ => cases e
        | scr _ => cases e
  | dat _ => cases e
  | scr _ => cases e
theorem augP_some {op : Operator} {x y : D} {z : PD} (e : augP op x y = some z) : ∃ m n, x = .dat (.int m) ∧ y = .dat (.int n) ∧ augI op m n = some z := by
  cases x with
  | dat x =>
    cases x with
    | int m =>
      cases y with
      | dat y =>
        cases y with
        | int n => exact ⟨m, n, rfl, rfl, e⟩
        | _ => cases e
      | ref _ => cases e
      | scr _ => cases e
    | _ => cases e
  | ref _ => cases e
  | scr _ => cases e
section
variable {X : Cx} {ca : Str → Option Addr} {W : WX} {a b c o i e tg : Expr} {fa fb fc : Loc → Hd → Res D} {pos pos' : Pos} {st : Stmt} {sts us : List Stmt} {ga gb : Loc → Hd → Out}
theorem ps_imp {t t' : TS} (h : PS X st t) (i : ∀ D σ H, t' D σ H → t D σ H) : PS X st t' := ⟨fun pins s σ H D I w => h.run pins s σ H D I (i D σ H w)⟩
theorem pss_imp {t t' : TS} (h : PSs X sts t) (i : ∀ D σ H, t' D σ H → t D σ H) : PSs X sts t' := ⟨fun pins s σ H D I w => h.run pins s σ H D I (i D σ H w)⟩
theorem snd_ss0 : PSs X [] (tS X.K ca W fun l h => .nx l h) := pss_imp pss_nil fun D σ H ⟨r, l, h, rl, rh, g⟩ => g r H σ (.refl r H) rh rl
theorem snd_ss (h1 : PS X st (tS X.K ca W ga)) (h2 : PSs X sts (tS X.K ca W gb)) : PSs X (st :: sts) (tS X.K ca W fun l h => match ga l h with
    | .nx l1 h1 => gb l1 h1
    | o => o) := by
  refine pss_imp (pss_cons h1 h2) fun D σ H ⟨r, l, h, rl, rh, g⟩ => ⟨r, l, h, rl, rh, ?_⟩
  dsimp only at g
  cases hg : ga l h with
  | nx l1 h1 =>
    rw [hg] at g
    exact fun r1 H1 s1 e1 q1 q2 => ⟨r1, l1, h1, q2, q1, GoS.mono (o := gb l1 h1) g e1⟩
  | bk l1 h1 => rw [hg] at g; exact g
  | ct l1 h1 => rw [hg] at g; exact g
  | rt d h1 => rw [hg] at g; exact g
  | exc x l1 h1 => rw [hg] at g; exact g
  | bad => rw [hg] at g; exact g
theorem snd_pas : PS X (.Pass pos) (tS X.K ca W fun l h => .nx l h) := ps_imp ps_pass fun D σ H ⟨r, l, h, rl, rh, g⟩ => g r H σ (.refl r H) rh rl
theorem snd_brk : PS X (.Break pos) (tS X.K ca W fun l h => .bk l h) := ps_imp ps_break fun D σ H ⟨r, l, h, rl, rh, g⟩ => g r H σ (.refl r H) rh rl
theorem snd_cnt : PS X (.Continue pos) (tS X.K ca W fun l h => .ct l h) := ps_imp ps_continue fun D σ H ⟨r, l, h, rl, rh, g⟩ => g r H σ (.refl r H) rh rl
theorem snd_stop : PS X st (tS X.K ca W fun _ _ => .bad) := ps_imp ps_never fun D σ H ⟨r, l, h, rl, rh, g⟩ => g
theorem snd_retN : PS X (.Return none pos) (tS X.K ca W fun _ h => .rt (.dat .none) h) := ps_imp ps_retN fun D σ H ⟨r, l, h, rl, rh, g⟩ => g r H .non (.refl r H) rh RP.non
theorem snd_ret (ha : PE X a (tE X.K ca W fa)) : PS X (.Return (some a) pos) (tS X.K ca W fun l h => (fa l h).out l fun x h1 => .rt x h1) := by
  refine ps_imp (ps_ret ha) fun D σ H ⟨r, l, h, rl, rh, g⟩ => ⟨r, l, h, rl, rh, (Go.of_out rl g).imp fun x h1 r1 H1 e1 rh1 g1 v rv => ?_⟩
  exact g1 r1 H1 v (.refl r1 H1) rh1 rv
theorem snd_exp (ha : PE X a (tE X.K ca W fa)) (hs : swapsWith a none pos.line X.env = pure false) : PS X (.Expr a pos) (tS X.K ca W fun l h => (fa l h).out l fun _ h1 => .nx l h1) := by
  refine ps_imp (ps_expr ha hs) fun D σ H ⟨r, l, h, rl, rh, g⟩ => ⟨r, l, h, rl, rh, (Go.of_out rl g).imp fun x h1 r1 H1 e1 rh1 g1 v rv => ?_⟩
  exact g1 r1 H1 σ (.refl r1 H1) rh1 (rl.ext e1)
theorem snd_doc {x : Str} {j : Nat} {p2 : Pos} : PS X (.Expr (.Constant (.str x) j p2) pos) (tS X.K ca W fun l h => .nx l h) := ps_imp ps_doc fun D σ H ⟨r, l, h, rl, rh, g⟩ => g r H σ (.refl r H) rh rl
/-- name = e: the reading -/
theorem asg_read {K : Frg} {i : Nat} {D : Ends} {σ : L2.St} {H : Hp} (q : tS K ca W (fun l h => (fa l h).out l fun x h1 => .nx (l.set i (some x)) h1) D σ H) : tAsg (tE K ca W fa) (gName i) D σ H := by
  obtain ⟨r, l, h, rl, rh, g⟩ := q
  refine ⟨r, l, h, rl, rh, (Go.of_out rl g).imp fun x h1 r1 H1 e1 rh1 g1 v rv => ?_⟩
  exact g1 r1 H1 _ (.refl r1 H1) rh1 ((rl.ext e1).set rv i)
theorem snd_asg {i : Nat} {x : Str} (hN : X.N.Nodup) (hi : X.N[i]? = some x) (hx : L2.Loc X.env.scope x) (hf : X.fn x = true ∨ X.env.scope.names.lookup x = some .local) (ha : PE X a (tE X.K ca W fa)) (hs : swapsWith a (some (.Name x pos')) pos.line X.env = pure false) :
    PS X (.Assign [.Name x pos'] a pos) (tS X.K ca W fun l h => (fa l h).out l fun x h1 => .nx (l.set i (some x)) h1) := ps_imp (ps_set hN hi hx ha hs hf) fun D σ H q => asg_read q
theorem snd_asgP {ps : Pts} {k : Nat} {es : List Expr} (ha : PE X a (tE X.K ca W fa)) (hg : PG X (.Tuple es k pos') (gP X.K (.tp ps))) (hs : swapsWithSole [.Tuple es k pos'] a pos.line X.env = pure false) (hw : swappedStores [.Tuple es k pos'] a X.env = pure none) :
    PS X (.Assign [.Tuple es k pos'] a pos) (tS X.K ca W fun l h => (fa l h).out l fun x h1 => match x with
      | .dat d => match bindP (.tp ps) d l with
        | some l' => .nx l' h1
        | none => .bad
      | _ => .bad) := by
  refine ps_imp (ps_asg ha hg hs hw rfl) fun D σ H ⟨r, l, h, rl, rh, g⟩ => ⟨r, l, h, rl, rh, (Go.of_out rl g).imp fun x h1 r1 H1 e1 rh1 g1 v rv => ?_⟩
  cases x with
  | dat d =>
    dsimp only at g1
    split at g1
    · rename_i l' hb
      exact ⟨r1, l, d, l', rl.ext e1, rv, hb, fun σ' rl' _ => g1 r1 H1 σ' (.refl r1 H1) rh1 rl'⟩
    · exact False.elim g1
  | ref n => exact False.elim g1
  | scr ns => exact False.elim g1
theorem snd_par2 {i j : Nat} {x y : Str} {px py pt : Pos} {kt k2 : Nat} {pt2 : Pos} {fs : Loc → Hd → Res (List D)} (hc : X.calm = true) (hN : X.N.Nodup) (hi : X.N[i]? = some x) (hj : X.N[j]? = some y) (hij : i ≠ j)
    (hx : X.env.scope.names.lookup x = some .local) (hy : X.env.scope.names.lookup y = some .local) (ha : PA X [a, b] (tA X.K ca W fs))
    (hw : swappedStores [.Tuple [.Name x px, .Name y py] kt pt] (.Tuple [a, b] k2 pt2) X.env = pure (some [x, y])) :
    PS X (.Assign [.Tuple [.Name x px, .Name y py] kt pt] (.Tuple [a, b] k2 pt2) pos) (tS X.K ca W fun l h => (fs l h).out l fun ds h1 => match setAll [i, j] ds l with
      | some l' => .nx l' h1
      | none => .bad) := by
  refine ps_imp (ps_par hc hN hi hj hij hx hy ha hw rfl) fun D σ H ⟨r, l, h, rl, rh, g⟩ => ⟨r, l, h, rl, rh, (Go.of_out rl g).imp fun ds h1 r1 H1 e1 rh1 g1 vs rvs => ?_⟩
  cases hb : setAll [i, j] ds l with
  | none => rw [hb] at g1; exact False.elim g1
  | some l' =>
    rw [hb] at g1
    obtain ⟨d1, d2, rfl, rfl⟩ := setAll2 hb
    obtain ⟨v, w, rfl, r2, r3⟩ := rvs.two
    exact ⟨v, w, rfl, g1 r1 H1 _ (.refl r1 H1) rh1 (((rl.ext e1).set r2 i).set r3 j)⟩
theorem snd_par3 {i j k : Nat} {x y z : Str} {px py pz pt : Pos} {kt k2 : Nat} {pt2 : Pos} {fs : Loc → Hd → Res (List D)} (hc : X.calm = true) (hN : X.N.Nodup) (hi : X.N[i]? = some x) (hj : X.N[j]? = some y) (hk : X.N[k]? = some z) (hij : i ≠ j) (hik : i ≠ k) (hjk : j ≠ k)
    (hx : X.env.scope.names.lookup x = some .local) (hy : X.env.scope.names.lookup y = some .local) (hz : X.env.scope.names.lookup z = some .local) (ha : PA X [a, b, c] (tA X.K ca W fs))
    (hw : swappedStores [.Tuple [.Name x px, .Name y py, .Name z pz] kt pt] (.Tuple [a, b, c] k2 pt2) X.env = pure (some [x, y, z])) :
    PS X (.Assign [.Tuple [.Name x px, .Name y py, .Name z pz] kt pt] (.Tuple [a, b, c] k2 pt2) pos) (tS X.K ca W fun l h => (fs l h).out l fun ds h1 => match setAll [i, j, k] ds l with
      | some l' => .nx l' h1
      | none => .bad) := by
  refine ps_imp (ps_par3 hc hN hi hj hk hij hik hjk hx hy hz ha hw rfl) fun D σ H ⟨r, l, h, rl, rh, g⟩ => ⟨r, l, h, rl, rh, (Go.of_out rl g).imp fun ds h1 r1 H1 e1 rh1 g1 vs rvs => ?_⟩
  cases hb : setAll [i, j, k] ds l with
  | none => rw [hb] at g1; exact False.elim g1
  | some l' =>
    rw [hb] at g1
    obtain ⟨d1, d2, d3, rfl, rfl⟩ := setAll3 hb
    obtain ⟨v, w, u, rfl, r2, r3, r4⟩ := rvs.three
    exact ⟨v, w, u, rfl, g1 r1 H1 _ (.refl r1 H1) rh1 ((((rl.ext e1).set r2 i).set r3 j).set r4 k)⟩
theorem snd_put {tpos : Pos} (hv : PE X a (tE X.K ca W fa)) (ho : PE X o (tE X.K ca W fb)) (hi : PE X i (tE X.K ca W fc)) (hs : swapsWithSole [.Subscript o i tpos] a pos.line X.env = pure false) (hw : swappedStores [.Subscript o i tpos] a X.env = pure none)
    (hns : ∀ v, assign (.Subscript o i tpos) X.env v = (do
      let ov ← holding [v] (eval o X.env)
      let iv ← holding [v, ov] (eval i X.env)
      standAt tpos
      holding [v, ov, iv] (setItem ov iv v)
      release [v, ov, iv] [])) :
    PS X (.Assign [.Subscript o i tpos] a pos) (tS X.K ca W fun l h => (fa l h).out l fun x h1 => (fb l h1).out l fun y h2 => (fc l h2).out l fun z h3 => match putRun h3 x y z with
      | some h4 => .nx l h4
      | none => .bad) := by
  refine ps_imp (ps_asg hv (pg_sub ho hi set_list hns) hs hw rfl) fun D σ H ⟨r, l, h, rl, rh, g⟩ => ?_
  refine ⟨r, l, h, rl, rh, (Go.of_out rl g).imp fun x h1 r1 H1 e1 rh1 g1 v rv => ?_⟩
  refine ⟨r1, l, h1, rl.ext e1, rh1, (Go.of_out (rl.ext e1) g1).imp fun y h2 r2 H2 e2 rh2 g2 u ru => ?_⟩
  refine ⟨r2, l, h2, (rl.ext e1).ext e2, rh2, (Go.of_out ((rl.ext e1).ext e2) g2).imp fun z h3 r3 H3 e3 rh3 g3 t rt => ?_⟩
  have rl3 := ((rl.ext e1).ext e2).ext e3
  cases hp : putRun h3 x y z with
  | none => rw [hp] at g3; exact False.elim g3
  | some h4 =>
    rw [hp] at g3
    obtain ⟨n, xs, d, k, j, rfl, rfl, rfl, hx, hj, rfl⟩ := putRun_some hp
    have rv3 : RP X.K r3 H3 v d := RV.ext (d := .dat d) rv (e2.trans e3)
    obtain ⟨q, hq, rfl⟩ := ru.ext e3
    have rt' : RP X.K r3 H3 t (.int k) := rt
    cases rt'
    obtain ⟨ys, h5, h6⟩ := rh3.ob n _ q hx hq
    have hm : q ∈ r3.at_ := List.mem_of_getElem? hq
    have e : Ext r3 H3 r3 (upd H3 q (.lst (ys.set j v))) := .mut hm (rh3.nohid hm)
    exact ⟨q, ys, k, j, rfl, rfl, h5, by rw [h6.length]; exact hj, g3 r3 _ σ e (rh3.set hq ⟨_, upd_same, (h6.set rv3 j).ext e⟩) (rl3.ext e)⟩
theorem snd_aug {op : Operator} {i : Nat} {x : Str} (hN : X.N.Nodup) (hi : X.N[i]? = some x) (hx : L2.Loc X.env.scope x) (hf : X.fn x = true ∨ X.env.scope.names.lookup x = some .local) (hop : op = .Add ∨ op = .Sub) (ha : PE X a (tE X.K ca W fa)) :
    PS X (.AugAssign (.Name x pos') op a pos) (tS X.K ca W fun l h => match l[i]? with
      | some (some x) => (fa l h).out l fun y h1 => match augP op x y with
        | some z => .nx (l.set i (some (.dat z))) h1
        | none => .bad
      | _ => .bad) := by
  have hip : PIp X op (fun x y H Q => ∃ i j z, x = .int i ∧ y = .int j ∧ augI op i j = some z ∧ ∀ v, (∀ K r H, RP K r H v z) → Q v H) := by
    rcases hop with rfl | rfl
    · exact fun pins s σ H x y v u Q I r1 r2 ⟨i, j, z, h1, h2, h3, k⟩ => ip_add pins s σ H x y v u Q I r1 r2 ⟨i, j, h1, h2, by cases h3; exact k _ fun _ _ _ => .int _⟩
    · exact fun pins s σ H x y v u Q I r1 r2 ⟨i, j, z, h1, h2, h3, k⟩ => ip_sub pins s σ H x y v u Q I r1 r2 ⟨i, j, h1, h2, by cases h3; exact k _ fun _ _ _ => .int _⟩
  refine ps_imp (ps_aug hN hi hx ha hip hf) fun D σ H ⟨r, l, h, rl, rh, g⟩ => ?_
  cases hd : l[i]? with
  | none => simp only [hd] at g; exact False.elim g
  | some od =>
    cases od with
    | none => simp only [hd] at g; exact False.elim g
    | some d =>
      simp only [hd] at g
      obtain ⟨v, h1, h2⟩ := rl.2 i d hd
      refine ⟨v, h1, r, l, h, rl, rh, (Go.of_out rl g).imp fun y h1 r1 H1 e1 rh1 g1 u ru => ?_⟩
      cases hz : augP op d y with
      | none => rw [hz] at g1; exact False.elim g1
      | some z =>
        rw [hz] at g1
        obtain ⟨m, n, rfl, rfl, hz'⟩ := augP_some hz
        have h2' : RP X.K r1 H1 v (.int m) := RV.ext (d := .dat (.int m)) h2 e1
        have ru' : RP X.K r1 H1 u (.int n) := ru
        cases h2'
        cases ru'
        exact ⟨m, n, z, rfl, rfl, hz', fun w hw => g1 r1 H1 _ (.refl r1 H1) rh1 ((rl.ext e1).set (d := .dat z) (hw _ _ _) i)⟩
theorem snd_ifs {ft : Loc → Hd → Res Bool} (hc : PT X c (tT X.K ca W ft)) (ha : PSs X sts (tS X.K ca W ga)) (hb : PSs X us (tS X.K ca W gb)) :
    PS X (.If c sts us pos) (tS X.K ca W fun l h => (ft l h).out l fun k h1 => if k then ga l h1 else gb l h1) := by
  refine ps_imp (ps_if hc ha hb) fun D σ H ⟨r, l, h, rl, rh, g⟩ => ⟨r, l, h, rl, rh, (Go.of_out rl g).imp fun k h1 r1 H1 e1 rh1 g1 => ?_⟩
  dsimp only [kT]
  cases k with
  | true =>
    rw [if_pos rfl]
    exact ⟨r1, l, h1, rl.ext e1, rh1, g1⟩
  | false =>
    rw [if_neg Bool.false_ne_true]
    exact ⟨r1, l, h1, rl.ext e1, rh1, g1⟩
/-! ### while -/
theorem whileF_run {c : Loc → Hd → Res Bool} {b : Loc → Hd → Out} {l : Loc} {h : Hd} (hb : whileF c b l h ≠ .bad) : ∃ n, whileN c b n l h = some (whileF c b l h) := by
  unfold whileF at hb ⊢
  split
  · rename_i z
    exact ⟨_, z.choose_spec.choose_spec⟩
  · rename_i z
    rw [dif_neg z] at hb
    exact absurd rfl hb
theorem snd_whl {ft : Loc → Hd → Res Bool} (hp : PassesOwn (model X.prog X.w) X.A X.env X.xe) (hc : PT X c (tT X.K ca W ft)) (hb : PSs X sts (tS X.K ca W gb)) :
    PS X (.While c sts [] pos) (tS X.K ca W fun l h => whileF ft gb l h) := by
  refine ps_imp (ps_while hp hc hb) fun D σ H ⟨r, l, h, rl, rh, g⟩ => ?_
  have hnb : whileF ft gb l h ≠ .bad := fun z => by
    dsimp only at g
    rw [z] at g
    exact g
  obtain ⟨n, hn⟩ := whileF_run hnb
  dsimp only at g
  generalize whileF ft gb l h = o at g hn
  refine ⟨fun m σ' H' => ∃ r' l' h', Ext r H r' H' ∧ RL X.K r' H' l' σ' ∧ RH X.K r' H' h' ∧ whileN ft gb m l' h' = some o, ⟨n, r, l, h, .refl r H, rl, rh, hn⟩, ?_⟩
  rintro m σ1 H1 ⟨r1, l1, h1, e1, rl1, rh1, hm⟩
  have g1 := g.mono e1
  cases m with
  | zero => cases hm
  | succ m =>
    simp only [whileN] at hm
    refine ⟨r1, l1, h1, rl1, rh1, ?_⟩
    cases hc1 : ft l1 h1 with
    | bad =>
      rw [hc1] at hm
      cases hm
      exact g1
    | exc x h2 =>
      rw [hc1] at hm
      cases hm
      exact fun r2 H2 e2 q2 cls dd rx => g1 r2 H2 σ1 cls dd e2 q2 (rl1.ext e2) rx
    | ok k h2 =>
      rw [hc1] at hm
      intro r2 H2 e2 rh2
      have rl2 := rl1.ext e2
      have g2 := g1.mono e2
      dsimp only [kT]
      cases k with
      | false =>
        rw [if_neg Bool.false_ne_true]
        dsimp only at hm
        cases hm
        exact g2 r2 H2 σ1 (.refl r2 H2) rh2 rl2
      | true =>
        rw [if_pos rfl]
        dsimp only at hm
        have e12 := e1.trans e2
        refine ⟨fun σ' H' => ∃ r' l' h', Ext r H r' H' ∧ RL X.K r' H' l' σ' ∧ RH X.K r' H' h' ∧ whileN ft gb m l' h' = some o, fun σ' H' q => ⟨m, Nat.lt_succ_self _, q⟩, r2, l1, h2, rl2, rh2, ?_⟩
        cases hb2 : gb l1 h2 with
        | nx l3 h3 =>
          rw [hb2] at hm
          exact fun r3 H3 s3 e3 q3 rl3 => ⟨r3, l3, h3, e12.trans e3, rl3, q3, hm⟩
        | ct l3 h3 =>
          rw [hb2] at hm
          exact fun r3 H3 s3 e3 q3 rl3 => ⟨r3, l3, h3, e12.trans e3, rl3, q3, hm⟩
        | bk l3 h3 => rw [hb2] at hm; cases hm; exact g2
        | rt d h3 => rw [hb2] at hm; cases hm; exact g2
        | exc x l3 h3 => rw [hb2] at hm; cases hm; exact g2
        | bad => rw [hb2] at hm; cases hm; exact g2
/-! ### for -/
theorem snd_for {p : Pt} {fi : Loc → Hd → Res Walk} {iter : Expr} (hp : PassesOwn (model X.prog X.w) X.A X.env X.xe) (hc : X.calm = true) (hi : PI X tg iter (tI X.K ca W fi)) (hg : PG X tg (gP X.K p)) (hb : PSs X sts (tS X.K ca W gb)) (hs : ∀ x, foldedSetIterable iter X.env x = pure x) :
    PS X (.For tg iter sts [] pos) (tS X.K ca W fun l h => (fi l h).out l fun w h1 => forRun p w gb w.items l h1) := by
  refine ps_imp (ps_for hp hc hi hg hb hs) fun D σ H ⟨r, l, h, rl, rh, g⟩ => ?_
  refine ⟨r, l, h, rl, rh, (Go.of_out rl g).imp fun w h1 r1 H1 e1 rh1 g1 J S it s1 => ?_⟩
  obtain ⟨o, ho⟩ : ∃ o, forRun p w gb w.items l h1 = o := ⟨_, rfl⟩
  rw [ho] at g1
  refine ⟨fun i n σ' H' => n = w.items.length - i ∧ i ≤ w.items.length ∧ ∃ r' l' h', Ext r1 H1 r' H' ∧ RL X.K r' H' l' σ' ∧ RH X.K r' H' h' ∧ S r' H' ∧ forRun p w gb (w.items.drop i) l' h' = o,
    ⟨_, rfl, Nat.zero_le _, r1, l, h1, .refl r1 H1, rl.ext e1, rh1, s1, by rw [List.drop_zero]; exact ho⟩, ?_⟩
  rintro i n σ2 H2 ⟨rfl, hi2, r2, l2, h2, e2, rl2, rh2, s2, ho2⟩
  have g2 := g1.mono e2
  by_cases hlt : i < w.items.length
  · rw [List.drop_eq_getElem_cons hlt, forRun] at ho2
    split at ho2
    · rename_i hst
      obtain ⟨go, yl⟩ := it.go i _ _ _ _ s2 rh2 hst (List.getElem?_eq_getElem hlt)
      refine .inr ⟨go, fun σ' H' => w.items.length - (i + 1) = w.items.length - (i + 1) ∧ i + 1 ≤ w.items.length ∧ ∃ r' l' h', Ext r1 H1 r' H' ∧ RL X.K r' H' l' σ' ∧ RH X.K r' H' h' ∧ S r' H' ∧ forRun p w gb (w.items.drop (i + 1)) l' h' = o, fun σ' H' q => ⟨_, by omega, q⟩, fun x H3 hy => ?_⟩
      obtain ⟨sm, rx⟩ := yl x H3 hy
      have e3 : Ext r2 H2 r2 H3 := .same rh2.tr sm
      split at ho2
      · subst ho2
        exact False.elim g2
      · rename_i l3 hb3
        refine ⟨r2, l2, _, l3, rl2.ext e3, rx, hb3, fun σ3 rl3 _ => ⟨r2, l3, h2, rl3, rh2.same sm, ?_⟩⟩
        have e23 := e2.trans e3
        cases hg3 : gb l3 h2 with
        | nx l4 h4 =>
          rw [hg3] at ho2
          exact fun r4 H4 s4 e4 q4 rl4 => ⟨rfl, hlt, r4, l4, h4, e23.trans e4, rl4, q4, it.stab _ _ _ _ s2 (e3.trans e4).e0, ho2⟩
        | ct l4 h4 =>
          rw [hg3] at ho2
          exact fun r4 H4 s4 e4 q4 rl4 => ⟨rfl, hlt, r4, l4, h4, e23.trans e4, rl4, q4, it.stab _ _ _ _ s2 (e3.trans e4).e0, ho2⟩
        | bk l4 h4 => rw [hg3] at ho2; subst ho2; exact g2.mono e3
        | rt d h4 => rw [hg3] at ho2; subst ho2; exact g2.mono e3
        | exc x l4 h4 => rw [hg3] at ho2; subst ho2; exact g2.mono e3
        | bad => rw [hg3] at ho2; subst ho2; exact g2.mono e3
    · subst ho2
      exact False.elim g2
  · have e : i = w.items.length := by omega
    subst e
    rw [List.drop_length, forRun] at ho2
    split at ho2
    · rename_i hst
      subst ho2
      exact .inl ⟨it.stop _ _ _ _ s2 rh2 hst (Nat.le_refl _), g2 r2 H2 σ2 (.refl r2 H2) rh2 rl2⟩
    · subst ho2
      exact False.elim g2
end
end Mi

/-! Mi: exceptions as data: made, asked, read; a dict of one pair. -/
namespace Mi
open PySem PySem.Spec PyProof.Rows L2
section
variable {X : Cx} {ca : Str → Option Addr} {W : WX} {a : Expr} {fa : Loc → Hd → Res D} {pos p : Pos}
/-- what a unary operation means -/
def p1F (o : P1) (fa : Loc → Hd → Res D) : Loc → Hd → Res D := fun l h => (fa l h).bind fun x h1 => match x with
  | .dat d => ofO h1 (o.fn d)
  | _ => .bad
theorem rpk_none {K : Frg} {r : Rho} {H : Hp} {kvs : List (Key × V)} {d : PD} {ds : List (PD × PD)} : ¬ RPk K r H kvs ((.none, d) :: ds) := by
  intro h
  generalize e : ((PyData.none, d) :: ds : List (PD × PD)) = es at h
  cases h with
  | nil => cases e
  | @cons k v vs d' ds' h1 h2 =>
    injection e with e1 e2
    injection e1 with e3 e4
    cases k <;> cases e3
theorem Off.two {r : Rho} {H : Hp} (t : Trk r H) {p : Addr} (hp : H p = none) : Off r p := t.off hp
/-- C(e), an own exception class without own __init__ -/
theorem snd_mk0 {c : Str} {C : Addr} {bmB : List Value} {B newId initId : String} (F : ExcBaseFacts B newId initId bmB) (q : PySem.W.excIn X.K C bmB newId = true) (hc : caK X.K c = some C) (hm : X.mg c = some (.ref C)) (kC : PySem.W.keepIn X.K (.ref C) = true) (hg : Gl X c)
    (hdb : (c == ("__debug__" : Str)) = false) (ha : PE X a (tE X.K ca W fa)) (hst : ∀ x p, a ≠ .Starred x p) : PE X (.Call (.Name c p) [a] [] pos) (tE X.K ca W (p1F (.mk0 c) fa)) := by
  refine pe_imp (pe_exc1 F q hm kC hg ha (one_star hst) hdb) fun σ H Q ⟨r, l, h, rl, rh, g⟩ => ?_
  refine ⟨r, l, h, rl, rh, g.bind.imp fun x h1 r1 H1 e1 rh1 g1 v rv => ?_⟩
  intro b hb
  split at g1
  · exact g1 r1 _ (.same rh1.tr (same_new hb)) (rh1.same (same_new hb)) _ (RP.xc0 hc upd_same (rh1.fresh hb))
  · exact False.elim g1
/-- C(e), an own exception class with an __init__ of one field -/
theorem snd_mkv {c f : Str} {C fI : Addr} {B newId initId : String} {bm : List Value} {fd : FuncData} {sv xv : Str} (T : OxC X.K C B newId initId bm) (iC : PySem.W.findIn X.K (.ref C) "__init__" = some (some (.ref fI))) (tI : PySem.W.typeIn X.K (.ref fI) = some (.type "function"))
    (F1 : FnOk X.prog X.w X.K X.mg X.base (L2.CX X.prog X.w) 1 fI fd [sv, xv] (spI C f)) (hr : Room 2 X.A) (hb : Binds X.K fd [sv, xv] []) (hg : Gl X c) (hm : X.mg c = some (.ref C)) (hc : caK X.K c = some C) (hdb : (c == ("__debug__" : Str)) = false)
    (ha : PE X a (tE X.K ca W fa)) (hst : ∀ x p, a ≠ .Starred x p) : PE X (.Call (.Name c p) [a] [] pos) (tE X.K ca W (p1F (.mkv c f) fa)) := by
  refine pe_imp (pe_mkG T iC tI F1 hr hb hg hm (pa_cons ha pa_nil (one_star hst)) hdb (one_star hst)) fun σ H Q ⟨r, l, h, rl, rh, g⟩ => ?_
  refine ⟨r, l, h, rl, rh, g.bind.imp fun x h1 r1 H1 e1 rh1 g1 v rv => ⟨v, rfl, fun b dx h2 h3 ne => ?_⟩⟩
  split at g1
  · rename_i d
    have hb2 : (upd H1 dx (exd dx [(f, v)])) b = none := by rw [upd_ne (fun z => ne z.symm)]; exact h2
    have s : Same H1 (upd (upd H1 dx (exd dx [(f, v)])) b (exo b C (some dx))) := fun z o q => same_new hb2 z o (same_new h3 z o q)
    refine g1 r1 _ (.same rh1.tr s) (rh1.same s) _ (RP.xcv hc upd_same ?_ (rh1.fresh h2) (rh1.fresh h3) (RP.sm rv s))
    rw [upd_ne ne, upd_same]
  · exact False.elim g1
/-! ### isinstance -/
/-- the exceptions' classes: what isinstance asks of them -/
theorem kit_x {pins : List (Addr × Obj)} {σ : L2.St} {H : Hp} {s : Shared} {r : Rho} {v : V} {u : Value} {d : PD} {c : Str} {C : Addr} (I : Inv X pins σ H s) (rv : RP X.K r H v d) (ru : RelV v u) (hx : xcls d = some c) (hC : caK X.K c = some C) (E : ExcC X.K C) :
    ∃ P : Heap → Prop, PySem.W.KitX X.K u (.ref C) P ∧ P s.heap ∧ u ≠ .builtin "__main__.__loader__#opaque" := by
  have hcl : (PySem.W.clsIn X.K C).isSome = true := by
    obtain ⟨cd, h1, _⟩ := PySem.W.any_some E.hd
    rw [h1]
    rfl
  unfold xcls at hx
  split at hx
  · rename_i c'
    cases hx
    rcases rv.dict_inv with ⟨a, kvs, _, _, _, z⟩ | ⟨a, C', c', rfl, e, h1, h2, _⟩ | ⟨a, C', dx, c', f, w, d, rfl, e, _⟩
    · exact absurd z rpk_none
    · cases e
      rw [hC] at h1
      cases h1
      cases ru
      obtain ⟨⟨oe, vs, e1, z, e2, _⟩, _⟩ := (show ObjOk X.prog X.w H s.heap a (ExO (.ref C) a) from I.hok a _ h2)
      have J : PySem.W.InstAt s.heap a oe C none := ⟨e1, z.1, by unfold PySem.W.notCls; rw [e2] <;> rfl, by rw [z.2]; trivial⟩
      exact ⟨_, PySem.W.kitx_exc (od := none) (ox := oe) hcl E.hg E.hk E.hs E.ha E.hn E.ht E.hm, J, fun z => nomatch z⟩
    · cases e
  · rename_i c' f' d'
    cases hx
    rcases rv.dict_inv with ⟨a, kvs, _, _, _, z⟩ | ⟨a, C', c', rfl, e, _⟩ | ⟨a, C', dx, c', f, w, d, rfl, e, h1, h2, h3, _⟩
    · exact absurd z rpk_none
    · cases e
    · cases e
      rw [hC] at h1
      cases h1
      cases ru
      obtain ⟨t1, e1⟩ := exo_at I.hok h2
      obtain ⟨mA, n1, _⟩ := exd_at I.hok h3
      obtain ⟨od, e2, _⟩ := lookIn_ns n1
      exact ⟨_, PySem.W.kitx_exc (od := some od) hcl E.hg E.hk E.hs E.ha E.hn E.ht E.hm, ⟨e1, rfl, rfl, e2⟩, fun z => nomatch z⟩
  · cases hx
/-- isinstance(v, u) where v is an exception -/
def rIsx (K : Frg) (u : Value) : List V → Hp → VK → Prop := fun xs H Q => ∃ (r : Rho) (v cv : V) (d : PD) (c : Str) (C : Addr) (b : Bool), xs = [v, cv] ∧ (∀ w, RelV cv w → w = u) ∧ RP K r H v d ∧ xcls d = some c ∧ caK K c = some C ∧ ExcC K C ∧ PySem.W.kitOne K (.ref C) u = some b ∧ Q (.bl b) H
theorem call_isx (u : Value) : CallR X (.builtin "isinstance") (rIsx X.K u) := by
  intro pins s σ H xs us Q I r h
  obtain ⟨r', v, cv, d, c, C, b, rfl, hcv, rv, hx, hC, E, e, q⟩ := h
  obtain ⟨u1, u2, rfl, r1, r2⟩ := vals2 r
  have e2 := hcv _ r2
  subst e2
  obtain ⟨P, Z, pz, nx⟩ := kit_x I rv r1 hx hC E
  exact PySem.W.kia_one Z I.kIn pz e nx fun tk => ⟨.bl b, H, I.tok tk, rfl, q⟩
/-- the class that is asked: the module's own, or a built-in one -/
def ClsOk (X : Cx) (y : Str) (u : Value) (cv : V) : Prop := (X.mg y = some u ∧ ∃ C, u = .ref C ∧ cv = .ref C) ∨ (X.mg y = none ∧ ∃ T, bootBuiltins y = some (.type T) ∧ u = .type T ∧ cv = .ty T)
theorem snd_isx {x y : Str} {tab : List (Str × Bool)} {u : Value} {cv : V} {p2 : Pos} (hg : Gl X x) (hm : X.mg x = none) (hv : bootBuiltins x = some (.builtin "isinstance")) (hg2 : Gl X y) (hy : ClsOk X y u cv)
    (ht : ∀ c b, tab.lookup c = some b → ∃ C, caK X.K c = some C ∧ ExcC X.K C ∧ PySem.W.kitOne X.K (.ref C) u = some b) (ha : PE X a (tE X.K ca W fa))
    (hn : x ≠ "__name__") (hdb : (x == ("__debug__" : Str)) = false) (hn2 : y ≠ "__name__") (hdb2 : (y == ("__debug__" : Str)) = false) (hst : ∀ x p, a ≠ .Starred x p) :
    PE X (.Call (.Name x p) [a, .Name y p2] [] pos) (tE X.K ca W (p1F (.isx y tab) fa)) := by
  have hc : PE X (.Name y p2) (tC cv) ∧ ∀ w, RelV cv w → w = u := by
    rcases hy with ⟨h1, C, rfl, rfl⟩ | ⟨h1, T, h2, rfl, rfl⟩
    · exact ⟨pe_glob (v := .ref C) hg2 h1 rfl hdb2, fun w z => z⟩
    · exact ⟨pe_bltn (v := .ty T) hg2 h1 h2 rfl hn2 hdb2, fun w z => z⟩
  refine pe_imp (pe_callB (call_isx u) hg hm hv (pa_cons ha (pa_cons hc.1 pa_nil rfl) (one_star hst)) hn hdb (one_star hst) rfl) fun σ H Q ⟨r, l, h, rl, rh, g⟩ => ?_
  refine ⟨r, l, h, rl, rh, g.bind.imp fun z h1 r1 H1 e1 rh1 g1 v rv => ?_⟩
  split at g1
  · rename_i d
    simp only [P1.fn] at g1
    cases hx : xcls d with
    | none => rw [hx] at g1; exact False.elim g1
    | some c =>
      cases hl : tab.lookup c with
      | none => rw [hx, Option.bind_some, hl] at g1; exact False.elim g1
      | some b =>
        rw [hx, Option.bind_some, hl] at g1
        obtain ⟨C, h3, h4, h5⟩ := ht c b hl
        exact ⟨r1, v, cv, d, c, C, b, rfl, hc.2, rv, hx, h3, h4, h5, Go.ok (a := D.dat (.bool b)) g1 rh1 _ (RP.bl _)⟩
  · exact False.elim g1
/-! ### e.f -/
theorem pe_xfv {te : TE} {f : Str} (he : PE X a te) (hb : attributeBase a f X.env (eval a X.env) = eval a X.env) :
    PE X (.Attribute a f pos) (fun σ H Q => te σ H fun x H1 => ∃ b C dx v, x = .ref b ∧ XfC X.K C ∧ PySem.W.findIn X.K (.ref C) f = some none ∧ H1 b = some (exo b C (some dx)) ∧ H1 dx = some (exd dx [(f, v)]) ∧ Q v H1) := by
  refine ⟨fun pins s σ H Q I h => ?_⟩
  refine attr_of hb (thn (he.run pins s σ H _ I h) fun u s1 hh => ?_)
  obtain ⟨x, H1, I1, rx, b, C, dx, v, rfl, T, hno, h1, h2, q⟩ := hh
  obtain rfl : u = Value.ref b := rx
  obtain ⟨t1, ho⟩ := exo_at I1.hok h1
  obtain ⟨mA, hns, hr⟩ := exd_at I1.hok h2
  obtain ⟨od, hd, hl⟩ := lookIn_ns hns
  obtain ⟨w, hw, rw'⟩ := RelO.some_of (v := v) (o := mA f) (by have := hr f; simpa using this)
  have J : PySem.W.InstAt s1.heap b _ C (some od) := ⟨ho, rfl, rfl, hd⟩
  exact HandSPX.exc_get I1.kIn J T.ga T.gg T.exC (PySem.W.findObj_own T.hdC hno rfl (by rw [hl, hw])) (handed_of rw') ⟨v, H1, I1.tok _, rw', q⟩
theorem snd_fld {f : Str} {cs : List Str} (hx : ∀ c ∈ cs, ∀ C, caK X.K c = some C → XfC X.K C ∧ PySem.W.findIn X.K (.ref C) f = some none) (hb : attributeBase a f X.env (eval a X.env) = eval a X.env) (ha : PE X a (tE X.K ca W fa)) :
    PE X (.Attribute a f pos) (tE X.K ca W (p1F (.fld f cs) fa)) := by
  refine pe_imp (pe_xfv ha hb) fun σ H Q ⟨r, l, h, rl, rh, g⟩ => ?_
  refine ⟨r, l, h, rl, rh, g.bind.imp fun z h1 r1 H1 e1 rh1 g1 v rv => ?_⟩
  split at g1
  · rename_i d
    simp only [P1.fn] at g1
    unfold xfld at g1
    split at g1
    · rename_i c' g' d'
      split at g1
      · rename_i hf
        obtain ⟨rfl, hcs⟩ := hf
        rcases RP.dict_inv (show RP X.K r1 H1 v _ from rv) with ⟨a, kvs, _, _, _, z⟩ | ⟨a, C', c', rfl, e, _⟩ | ⟨a, C', dx, c', f, w, d, rfl, e, q1, q2, q3, _, _, q4⟩
        · exact absurd z rpk_none
        · cases e
        · cases e
          obtain ⟨T, hno⟩ := hx _ hcs _ q1
          exact ⟨a, C', dx, w, rfl, T, hno, q2, q3, Go.ok (a := D.dat _) g1 rh1 _ q4⟩
      · exact False.elim g1
    · exact False.elim g1
  · exact False.elim g1
/-! ### a dict of one written pair -/
theorem con_v {d : PD} {k : Const} {j : Nat} (e : conOk d k = true) : ∃ v, PE X (.Constant k j pos) (tC v) ∧ ∀ r H, RP X.K r H v d := by
  cases d <;> cases k <;> first
    | (cases e; done)
    | exact ⟨_, pe_non, fun _ _ => .non⟩
    | (have e' := beq_iff_eq.mp e; subst e'; exact ⟨_, pe_bl, fun _ _ => .bl _⟩)
    | (have e' := beq_iff_eq.mp e; subst e'; exact ⟨_, pe_int, fun _ _ => .int _⟩)
    | (have e' := beq_iff_eq.mp e; subst e'; exact ⟨_, pe_str, fun _ _ => .str _⟩)
theorem upd_upd {H : Hp} {b : Addr} {x y : HO} : upd (upd H b x) b y = upd H b y := by
  funext z
  by_cases e : z = b
  · rw [e, upd_same, upd_same]
  · rw [upd_ne e, upd_ne e, upd_ne e]
theorem snd_dsp {k : Str} {d : PD} {kc : Const} {j j2 : Nat} {pk p2 : Pos} (e : conOk d kc = true) : PE X (.Dict [some (.Constant (.str k) j pk)] [.Constant kc j2 p2] pos) (tE X.K ca W (p1F (.dsp k) fun _ h => .ok (.dat d) h)) := by
  obtain ⟨v, hv, rv⟩ := con_v (X := X) (pos := p2) (j := j2) e
  refine pe_imp (pe_disp (pps_cons pe_str hv pps_nil) rfl rfl (by simp) (by simp)) fun σ H Q ⟨r, l, h, rl, rh, g⟩ => ?_
  intro b hb
  refine ⟨upd_same, [(.inr k, v)], rfl, by simp, ?_⟩
  rw [upd_upd]
  have s := same_new (o := HO.dK [(Sum.inr k, v)]) hb
  exact g r _ (.same rh.tr s) (rh.same s) _ (RP.dct (kvs := [(.inr k, v)]) (.inl upd_same) (rh.fresh hb) (.cons (k := .inr k) (rv _ _) .nil))
/-! ### enumerate -/
theorem enum_get : ∀ (ds : List PD) (k : Int) (i : Nat), (enumFrom k ds)[i]? = (ds[i]?).map fun d => .tuple [.int (k + (i : Int)), d]
  | [], k, i => by simp [enumFrom]
  | d :: ds, k, 0 => by simp [enumFrom]
  | d :: ds, k, i + 1 => by
    simp only [enumFrom, List.getElem?_cons_succ]
    rw [enum_get ds (k + 1) i]
    congr 1
    funext d
    have : k + 1 + (i : Int) = k + ((i + 1 : Nat) : Int) := by omega
    rw [this]
theorem enum_len : ∀ (ds : List PD) (k : Int), (enumFrom k ds).length = ds.length
  | [], k => rfl
  | d :: ds, k => by simp [enumFrom, enum_len ds]
theorem it_enm {K : Frg} {b : Addr} {ds : List PD} : ItOk K (Ite K b) ⟨enumFrom 0 ds, none⟩ (fun r H => ∃ ys, H b = some (.lst ys) ∧ Off r b ∧ RPs K r H ys ds) := by
  refine ⟨fun r H r' H' ⟨ys, z1, z2, z3⟩ e => ⟨ys, e.stb.ex _ _ z1 z2, (e.stb.rd _ _ (.inl z1) z2).2, RPs.mono e.stb _ _ z3⟩, fun i d r H h ⟨ys, z1, z2, z3⟩ rh w hd => ?_, fun i r H h ⟨ys, z1, z2, z3⟩ rh w hi => ?_⟩
  · dsimp only at hd
    rw [enum_get] at hd
    cases hr : ds[i]? with
    | none => rw [hr] at hd; cases hd
    | some e =>
      rw [hr] at hd
      cases hd
      obtain ⟨v, h3, h4⟩ := z3.get hr
      refine ⟨⟨ys, v, .inl (.inl z1), h3⟩, fun x H' hy => ?_⟩
      obtain ⟨T, x', rfl, hT, rfl, hx⟩ := hy
      have ex := hx ys (.inl (.inl z1))
      rw [h3] at ex
      cases ex
      have s := same_new (o := HO.tup [.int (i : Nat), v]) hT
      refine ⟨s, RP.tup (.inl ⟨.inl upd_same, rh.fresh hT⟩) (.cons ?_ (.cons (RP.sm h4 s) .nil))⟩
      have : (0 : Int) + (i : Int) = ((i : Nat) : Int) := by omega
      rw [this]
      exact .int _
  · refine ⟨ys, .inl (.inl z1), ?_⟩
    dsimp only at hi
    rw [enum_len] at hi
    rw [z3.length]
    exact hi
theorem snd_enm {elts : List Expr} {kk : Nat} {tpos : Pos} (hg : Gl X "enumerate") (hm : X.mg "enumerate" = none) (ha : PE X a (tE X.K ca W fa)) (hst : ∀ x p, a ≠ .Starred x p) :
    PI X (.Tuple elts kk tpos) (.Call (.Name "enumerate" p) [a] [] pos) (tI X.K ca W fun l h => (fa l h).bind fun x h1 => match x with
      | .dat (.list ds) => .ok ⟨enumFrom 0 ds, none⟩ h1
      | _ => .bad) := by
  refine pi_imp (pi_enum hg hm (pa_cons ha pa_nil (one_star hst)) (by rw [one_star hst]; rfl)) fun σ H R ⟨r, l, h, rl, rh, g⟩ => ?_
  refine ⟨r, l, h, rl, rh, g.bind.imp fun x h1 r1 H1 e1 rh1 g1 v rv => ?_⟩
  split at g1
  · rename_i ds
    have rv' : RP X.K r1 H1 v (.list ds) := rv
    cases rv' with
    | lst h2 h3 h4 =>
      rename_i b ys
      exact ⟨b, ys, rfl, .inl (.inl h2), Go.ok (a := Walk.mk (enumFrom 0 ds) none) g1 rh1 _ _ it_enm ⟨ys, h2, h3, h4⟩⟩
  · exact False.elim g1
end
end Mi

/-! Mi: the checker: which text an instruction stands for. -/
namespace Mi
open PySem PySem.Spec PyProof.Rows L2

def isL (sc : Scope) (x : Str) : Bool := sc.names.lookup x == some .local
def isLC (sc : Scope) (x : Str) : Bool := sc.names.lookup x == some .local || sc.names.lookup x == some .cell
def isVis (sc : Scope) (x : Str) : Bool := sc.names.lookup x == some .local || sc.names.lookup x == some .cell || sc.names.lookup x == some .free
def isGl (sc : Scope) (x : Str) : Bool := sc.names.lookup x == some .globalImplicit
def okN (x : Str) : Bool := !(x == ("__debug__" : Str)) && !(x == ("__classdict__" : Str)) && !(x == ("__name__" : Str))
def noStar : Expr → Bool
  | .Starred .. => false
  | _ => true
def notSet : Expr → Bool
  | .Set .. => false
  | _ => true
def notSl : Expr → Bool
  | .Slice .. => false
  | _ => true
def notComp : Expr → Bool
  | .ListComp .. => false
  | .SetComp .. => false
  | .DictComp .. => false
  | _ => true
def notTup : Expr → Bool
  | .Tuple .. => false
  | _ => true
def notCall0 : Expr → Bool
  | .Call _ [] _ _ => false
  | _ => true
/-! the check of a target: names with their places -/
mutual
def chkP (N : List Str) (sc : Scope) (fn : Str → Bool) : Pt → Expr → Bool
  | .nm i, x => match x with
    | .Name n _ => N[i]? == some n && isLC sc n && (fn n || isL sc n)
    | _ => false
  | .tp ps, x => match x with
    | .Tuple es _ _ => chkPs N sc fn ps es
    | _ => false
def chkPs (N : List Str) (sc : Scope) (fn : Str → Bool) : Pts → List Expr → Bool
  | .nil, xs => match xs with
    | [] => true
    | _ => false
  | .cons p r, xs => match xs with
    | x :: ys => noStar x && chkP N sc fn p x && chkPs N sc fn r ys
    | [] => false
end
def ownOf (N : List Str) (is : List Nat) : List (Str × Nat) := is.map fun i => (N.getD i ⟨#[]⟩, i)
def blkB (N : List Str) (sc scope : Scope) (is : List Nat) : Bool :=
  (scope.kind == .function) && scope.names.all (fun y => scope.names.lookup y.1 == some y.2) && is.all (fun i => decide (i < N.length))
    && scope.names.all (fun y => !(y.2 == .free) || sc.names.lookup y.1 == some .cell || sc.names.lookup y.1 == some .free)
    && scope.names.all (fun y => !(y.2 == .local || y.2 == .cell) || ((ownOf N is).map (·.1)).contains y.1 || !N.contains y.1)
def Bl.name : Bl → Str
  | .len => "len"
  | .abs => "abs"
  | .int => "int"
  | .max => "max"
  | .min => "min"
  | .sum => "sum"
  | .all => "all"
  | .any => "any"
  | .tuple => "tuple"
  | .repr => "repr"
/-- the built-in names that the module leaves as they are -/
def bltNames : List Str := ["len", "abs", "int", "max", "min", "sum", "all", "any", "tuple", "list", "isinstance", "bool", "str", "dict", "range", "enumerate", "sorted", "set", "zip", "repr"]
def Mt.noArg : Mt → Bool
  | .pop => true
  | .clear => true
  | _ => false
/-! a test that is the truth of its value, at all places -/
mutual
def tstE : E → Bool
  | .ife _ _ _ => false
  | .nt a => tstE a
  | .boo _ es => tstEs es
  | _ => true
def tstEs : Es → Bool
  | .nil => true
  | .cons e r => tstE e && tstEs r
end
structure Ck where
  N : List Str
  fs : Str → Bool
  cs : Str → Bool
  xs : Str → Option Str
  x0 : Str → Bool
  xt : Str → List (Str × Bool) → Bool
  xf : Str → List Str → Bool
/-- the text of a unary operation: what it is asked of -/
def argOf (c : Ck) (sc : Scope) : P1 → Expr → Option Expr
  | .mk0 g, x => match x with
    | .Call (.Name n _) [y] [] _ => if n == g && isGl sc g && okN g && c.x0 g && noStar y then some y else none
    | _ => none
  | .mkv g f, x => match x with
    | .Call (.Name n _) [y] [] _ => if n == g && isGl sc g && okN g && c.xs g == some f && noStar y then some y else none
    | _ => none
  | .isx g tab, x => match x with
    | .Call (.Name n _) [y, .Name t _] [] _ => if n == ("isinstance" : Str) && isGl sc "isinstance" && t == g && isGl sc g && okN g && c.xt g tab && noStar y then some y else none
    | _ => none
  | .fld f cs, x => match x with
    | .Attribute y n _ => if n == f && notCall0 y && c.xf f cs then some y else none
    | _ => none
  | .dsp k, x => match x with
    | .Dict [some (.Constant (.str n) _ _)] [.Constant kc j p] _ => if n == k then some (.Constant kc j p) else none
    | _ => none
def enmOk : Itr → Expr → Bool
  | .enm _, .Tuple .. => true
  | .enm _, _ => false
  | _, _ => true
def isCon : E → Bool
  | .con _ => true
  | _ => false
def P1.isDsp : P1 → Bool
  | .dsp _ => true
  | _ => false
mutual
def chkE (c : Ck) : E → Scope → Expr → Bool
  | .var i, sc, x => match x with
    | .Name n _ => c.N[i]? == some n && isVis sc n && okN n
    | _ => false
  | .con d, sc, x => match x with
    | .Constant k _ _ => conOk d k
    | _ => false
  | .glo n, sc, x => match x with
    | .Name m _ => m == n && isGl sc n && c.cs n && okN n
    | _ => false
  | .bin op a b, sc, x => match x with
    | .BinOp l o r _ => decide (op = o) && chkE c a sc l && chkE c b sc r
    | _ => false
  | .neg a, sc, x => match x with
    | .UnaryOp .USub y _ => chkE c a sc y
    | _ => false
  | .cmp op a b, sc, x => match x with
    | .Compare l [o] [r] _ => decide (op = o) && notSet r && chkE c a sc l && chkE c b sc r
    | _ => false
  | .cmp2 op op' a b d, sc, x => match x with
    | .Compare l [o, o'] [m, r] _ => decide (op = o) && decide (op' = o') && notSet r && chkE c a sc l && chkE c b sc m && chkE c d sc r
    | _ => false
  | .boo k es, sc, x => match x with
    | .BoolOp o xs _ => decide (o = (if k then .And else .Or)) && chkB c es sc xs
    | _ => false
  | .nt a, sc, x => match x with
    | .UnaryOp .Not y _ => chkE c a sc y
    | _ => false
  | .ife d a b, sc, x => match x with
    | .IfExp t y z _ => tstE d && chkE c d sc t && chkE c a sc y && chkE c b sc z
    | _ => false
  | .tup es, sc, x => match x with
    | .Tuple xs _ _ => chkEs c es sc xs
    | _ => false
  | .lst _ es, sc, x => match x with
    | .List xs _ => chkEs c es sc xs
    | _ => false
  | .ix a b, sc, x => match x with
    | .Subscript y z _ => notSl z && chkE c a sc y && chkE c b sc z
    | _ => false
  | .sl _ a lo hi, sc, x => match x with
    | .Subscript y (.Slice l h none _) _ => chkE c a sc y && chkO c lo sc l && chkO c hi sc h
    | _ => false
  | .call f es, sc, x => match x with
    | .Call (.Name g _) (y :: ys) [] _ => g == f && isGl sc f && c.fs f && okN f && chkEs c es sc (y :: ys)
    | _ => false
  | .blt f es, sc, x => match x with
    | .Call (.Name g _) (y :: ys) [] _ => g == f.name && isGl sc f.name && chkEs c es sc (y :: ys)
    | _ => false
  | .lis _ a, sc, x => match x with
    | .Call (.Name g _) [y] [] _ => g == ("list" : Str) && isGl sc "list" && noStar y && chkE c a sc y
    | _ => false
  | .isi a k, sc, x => match x with
    | .Call (.Name g _) [y, .Name t _] [] _ => g == ("isinstance" : Str) && isGl sc "isinstance" && t == Str.ofString k.name && isGl sc (Str.ofString k.name) && noStar y && chkE c a sc y
    | _ => false
  | .mth k o es, sc, x => match x with
    | .Call (.Attribute y n ap) xs [] cp => n == k.name && notCall0 y && (ap.endLine == cp.line) && decide (xs.length < 30) && (k.noArg == xs.isEmpty) && chkE c o sc y && chkEs c es sc xs
    | _ => false
  | .lc _ p it t e, sc, x => match x with
    | .ListComp y [⟨tg, iter, ifs, 0⟩] scope _ => blkB c.N sc scope p.slots && notSet iter && chkI c it sc iter && enmOk it tg
        && chkP c.N (relS scope sc) (fun n => scope.names.lookup n == some .cell) p tg && chkT c t (relS scope sc) ifs && chkE c e (relS scope sc) y
    | _ => false
  | .dnil, sc, x => match x with
    | .Dict [] [] _ => true
    | _ => false
  | .p1 o a, sc, x => match argOf c sc o x with
    | some y => (!o.isDsp || isCon a) && chkE c a sc y
    | none => false
def chkEs (c : Ck) : Es → Scope → List Expr → Bool
  | .nil, sc, xs => match xs with
    | [] => true
    | _ => false
  | .cons e r, sc, xs => match xs with
    | x :: ys => noStar x && chkE c e sc x && chkEs c r sc ys
    | [] => false
def chkB (c : Ck) : Es → Scope → List Expr → Bool
  | .nil, sc, xs => false
  | .cons e r, sc, xs => match xs with
    | x :: ys => chkE c e sc x && (match r, ys with
      | .nil, [] => true
      | .nil, _ => false
      | .cons _ _, _ => chkB c r sc ys)
    | [] => false
def chkO (c : Ck) : Eo → Scope → Option Expr → Bool
  | .no, sc, x => x.isNone
  | .yes e, sc, x => match x with
    | some y => chkE c e sc y
    | none => false
def chkT (c : Ck) : Eo → Scope → List Expr → Bool
  | .no, sc, xs => xs.isEmpty
  | .yes e, sc, xs => match xs with
    | [y] => tstE e && chkE c e sc y
    | _ => false
def chkI (c : Ck) : Itr → Scope → Expr → Bool
  | .seq e, sc, x => chkE c e sc x
  | .rng es, sc, x => match x with
    | .Call (.Name g _) xs [] _ => g == ("range" : Str) && isGl sc "range" && (xs.length == 1 || xs.length == 2) && chkEs c es sc xs
    | _ => false
  | .enm e, sc, x => match x with
    | .Call (.Name g _) [y] [] _ => g == ("enumerate" : Str) && isGl sc "enumerate" && noStar y && chkE c e sc y
    | _ => false
end
/-- name = e: may the store be exchanged -/
def swapB (sc : Scope) (n : Str) (py : Pos) : Expr → Bool
  | .ListComp _ _ s p => isL sc n && py.line == p.line && !(s.names.any fun (m, k) => m == n && (k == .local || k == .cell))
  | _ => false
def isLcx : Expr → Bool
  | .ListComp .. => true
  | _ => false
def isLce : E → Bool
  | .lc .. => true
  | _ => false
def parB (sc : Scope) (ns : List Str) (ls : List Nat) (vs : List Expr) : Bool :=
  ns.all (isL sc) && decide ns.Nodup && ls.all (· == ls.headD 0) && vs.all noStar && !(vs.all (foldedForSure 8)) && !(vs.all (constantsAlone 8))
mutual
def chkS (c : Ck) (sc : Scope) : S → Stmt → Bool
  | .asg p e, s => match s with
    | .Assign [t] v _ => match p with
      | .nm i => match t with
        | .Name n py => c.N[i]? == some n && isLC sc n && chkE c e sc v && (notComp v || (isLce e && isLcx v))
        | _ => false
      | .tp ps => match t with
        | .Tuple es _ _ => notTup v && chkPs c.N sc (fun _ => true) ps es && chkE c e sc v
        | _ => false
    | _ => false
  | .par is es, s => match s with
    | .Assign [.Tuple [.Name x px, .Name y py] _ _] (.Tuple vs _ _) _ => match is with
      | [i, j] => c.N[i]? == some x && c.N[j]? == some y && parB sc [x, y] [px.line, py.line] vs && vs.length == 2 && chkEs c es sc vs
      | _ => false
    | .Assign [.Tuple [.Name x px, .Name y py, .Name z pz] _ _] (.Tuple vs _ _) _ => match is with
      | [i, j, k] => c.N[i]? == some x && c.N[j]? == some y && c.N[k]? == some z && parB sc [x, y, z] [px.line, py.line, pz.line] vs && vs.length == 3 && chkEs c es sc vs
      | _ => false
    | _ => false
  | .put o i v, s => match s with
    | .Assign [.Subscript y z _] x _ => notSl z && chkE c v sc x && chkE c o sc y && chkE c i sc z
    | _ => false
  | .aug op i e, s => match s with
    | .AugAssign (.Name n _) o v _ => decide (op = o) && (decide (op = .Add) || decide (op = .Sub)) && c.N[i]? == some n && isLC sc n && chkE c e sc v
    | _ => false
  | .exp e, s => match s with
    | .Expr v _ => notComp v && chkE c e sc v
    | _ => false
  | .ret e, s => match s with
    | .Return (some v) _ => chkE c e sc v
    | _ => false
  | .retN, s => match s with
    | .Return none _ => true
    | _ => false
  | .ifs t a b, s => match s with
    | .If x ys zs _ => tstE t && chkE c t sc x && chkSs c sc a ys && chkSs c sc b zs
    | _ => false
  | .whl t b, s => match s with
    | .While x ys [] _ => tstE t && chkE c t sc x && chkSs c sc b ys
    | _ => false
  | .for p it b, s => match s with
    | .For tg iter ys [] _ => notSet iter && chkI c it sc iter && enmOk it tg && chkP c.N sc (fun _ => true) p tg && chkSs c sc b ys
    | _ => false
  | .pas, s => match s with
    | .Pass _ => true
    | .Expr (.Constant (.str _) _ _) _ => true
    | _ => false
  | .brk, s => match s with
    | .Break _ => true
    | _ => false
  | .cnt, s => match s with
    | .Continue _ => true
    | _ => false
  | .stop, _ => true
  | .rse cls fld e, s => match s with
    | .Raise (some (.Call (.Name g _) [y] [] _)) none _ => g == cls && isGl sc cls && okN cls && c.xs cls == some fld && noStar y && chkE c e sc y
    | _ => false
  | .tri e cls fld i, s => match s with
    | .Try [.Return (some y) _] [.ExceptHandler (some (.Name g _)) (some n) [.Return (some (.Attribute (.Name n2 _) fl _)) _] _] [] [] _ =>
      g == cls && isGl sc cls && okN cls && c.xs cls == some fld && c.N[i]? == some n && n2 == n && isL sc n && okN n && fl == fld && chkE c e sc y
    | _ => false
def chkSs (c : Ck) (sc : Scope) : Ss → List Stmt → Bool
  | .nil, ss => match ss with
    | [] => true
    | _ => false
  | .cons s r, ss => match ss with
    | x :: ys => chkS c sc s x && chkSs c sc r ys
    | [] => false
end
end Mi

/-! Mi: what is checked keeps its meaning: expressions. -/
namespace Mi
open PySem PySem.Spec PyProof.Rows L2

/-- the module's facts -/
structure Md (P : Program) (w : World) (K : Frg) (mg : Str → Option Value) (base : Heap) (ca : Str → Option Addr) (gc : Str → Option PD) (cf : Str → List D → Hd → Res D) (A : Around) (fs cs : Str → Bool) (xs : Str → Option Str) (x0 : Str → Bool) (xt : Str → List (Str × Bool) → Bool) (xf : Str → List Str → Bool) : Prop where
  fn : ∀ f, fs f = true → ∃ k n a fd ps, FnG P w K mg base k a fd ps (spD K ca n (cf f)) ∧ Room k A ∧ mg f = some (.ref a) ∧ PySem.W.keepIn K (.ref a) = true ∧ Binds K fd ps [] ∧ ∀ ds h, ds.length ≠ n → cf f ds h = .bad
  cn : ∀ x, cs x = true → (gc x).isSome = true
  cv : ∀ x d, gc x = some d → ∃ u v, mg x = some u ∧ RelV v u ∧ ∀ r H, RP K r H v d
  bl : ∀ x ∈ bltNames, mg x = none
  xc : ∀ c f, xs c = some f → Room 2 A ∧ ∃ C B newId initId bm fI fd sv xv, ca c = some C ∧ caK K c = some C ∧ mg c = some (.ref C) ∧ OxC K C B newId initId bm ∧ PySem.W.findIn K (.ref C) "__init__" = some (some (.ref fI)) ∧ PySem.W.typeIn K (.ref fI) = some (.type "function") ∧
    FnOk P w K mg base (L2.CX P w) 1 fI fd [sv, xv] (spI C f) ∧ Binds K fd [sv, xv] [] ∧ XfC K C ∧ PySem.W.findIn K (.ref C) f = some none ∧ PySem.W.exmOne K (.ref C) (.ref C) = some true
  m0 : ∀ c, x0 c = true → ∃ C B newId initId bm, ExcBaseFacts B newId initId bm ∧ PySem.W.excIn K C bm newId = true ∧ caK K c = some C ∧ mg c = some (.ref C) ∧ PySem.W.keepIn K (.ref C) = true
  it : ∀ y tab, xt y tab = true → ∃ u cv, ((mg y = some u ∧ ∃ C, u = .ref C ∧ cv = V.ref C) ∨ (mg y = none ∧ ∃ T, bootBuiltins y = some (.type T) ∧ u = .type T ∧ cv = .ty T)) ∧ ∀ c b, tab.lookup c = some b → ∃ C, caK K c = some C ∧ ExcC K C ∧ PySem.W.kitOne K (.ref C) u = some b
  fl : ∀ f l, xf f l = true → ∀ c ∈ l, ∀ C, caK K c = some C → XfC K C ∧ PySem.W.findIn K (.ref C) f = some none
structure Cxt (ca : Str → Option Addr) (gc : Str → Option PD) (cf : Str → List D → Hd → Res D) (c : Ck) (sc : Scope) (W : WX) (X : Cx) : Prop where
  hN : X.N = c.N
  nd : c.N.Nodup
  hs : X.env.scope = sc
  kd : sc.kind = .function
  calm : X.calm = true
  hu : X.A.units + 65 < cLine
  gd : X.A.guards = some []
  tk : Takes X W
  md : Md X.prog X.w X.K X.mg X.base ca gc cf X.A c.fs c.cs c.xs c.x0 c.xt c.xf
section
variable {X : Cx} {ca : Str → Option Addr} {gc : Str → Option PD} {cf : Str → List D → Hd → Res D} {c : Ck} {sc : Scope} {W : WX}
theorem pe_eq {x : Expr} {f g : Loc → Hd → Res D} (h : PE X x (tE X.K ca W f)) (e : ∀ l h, g l h = f l h) : PE X x (tE X.K ca W g) := by
  have z : g = f := funext fun l => funext (e l)
  rw [z]
  exact h
theorem pt_eq {x : Expr} {f g : Loc → Hd → Res Bool} (h : PT X x (tT X.K ca W f)) (e : ∀ l h, g l h = f l h) : PT X x (tT X.K ca W g) := by
  have z : g = f := funext fun l => funext (e l)
  rw [z]
  exact h
theorem pw_eq {x : Expr} {f g : Loc → Hd → Res Bool} (h : PW X x (tT X.K ca W f)) (e : ∀ l h, g l h = f l h) : PW X x (tT X.K ca W g) := by
  have z : g = f := funext fun l => funext (e l)
  rw [z]
  exact h
theorem pa_eq {x : List Expr} {f g : Loc → Hd → Res (List D)} (h : PA X x (tA X.K ca W f)) (e : ∀ l h, g l h = f l h) : PA X x (tA X.K ca W g) := by
  have z : g = f := funext fun l => funext (e l)
  rw [z]
  exact h
theorem po_eq {x : Option Expr} {f g : Loc → Hd → Res (Option Int)} (h : PO X x (tO X.K ca W f)) (e : ∀ l h, g l h = f l h) : PO X x (tO X.K ca W g) := by
  have z : g = f := funext fun l => funext (e l)
  rw [z]
  exact h
theorem pi_eq {tg x : Expr} {f g : Loc → Hd → Res Walk} (h : PI X tg x (tI X.K ca W f)) (e : ∀ l h, g l h = f l h) : PI X tg x (tI X.K ca W g) := by
  have z : g = f := funext fun l => funext (e l)
  rw [z]
  exact h
theorem star_ne {x : Expr} (h : noStar x = true) : ∀ y p, x ≠ .Starred y p := fun y p e => by rw [e] at h; cases h
theorem okn {x : Str} (h : okN x = true) : (x == ("__debug__" : Str)) = false ∧ (x == ("__classdict__" : Str)) = false ∧ x ≠ "__name__" := by
  simp only [okN, Bool.and_eq_true, Bool.not_eq_true'] at h
  exact ⟨h.1.1, h.1.2, fun e => by rw [e] at h; simp at h⟩
theorem vis_of {x : Str} (C : Cxt ca gc cf c sc W X) (h : isVis sc x = true) : Vis X.env.scope x := by
  simp only [isVis, Bool.or_eq_true, beq_iff_eq] at h
  rw [C.hs]
  rcases h with (h | h) | h
  · exact .inl h
  · exact .inr (.inl h)
  · exact .inr (.inr h)
theorem gl_of {x : Str} (C : Cxt ca gc cf c sc W X) (h : isGl sc x = true) : Gl X x := by
  simp only [isGl, beq_iff_eq] at h
  show X.env.scope.names.lookup x = _
  rw [C.hs]
  exact h
theorem lc_of {x : Str} (C : Cxt ca gc cf c sc W X) (h : isLC sc x = true) : L2.Loc X.env.scope x := by
  simp only [isLC, Bool.or_eq_true, beq_iff_eq] at h
  rw [C.hs]
  exact h
theorem l_of {x : Str} (C : Cxt ca gc cf c sc W X) (h : isL sc x = true) : X.env.scope.names.lookup x = some .local := by
  simp only [isL, beq_iff_eq] at h
  rw [C.hs]
  exact h
theorem marks_of {op : CmpOp} {x : Expr} (h : notSet x = true) : behindInMarks op x = false := by cases x <;> first | rfl | cases h
theorem fold_of {x : Expr} (h : notSet x = true) (env : Env) : ∀ v, foldedSetIterable x env v = pure v := by
  intro v
  cases x <;> first | rfl | cases h
theorem pix_of {x : Expr} (h : notSl x = true) : PlainIx x := by
  intro o i
  cases x <;> first | rfl | cases h
theorem base_of {o : Expr} {n : Str} {env : Env} (h : notCall0 o = true) : attributeBase o n env (eval o env) = eval o env := by
  unfold attributeBase
  cases o with
  | Call f as ks p => cases as with
    | nil => cases h
    | cons a as => cases f <;> rfl
  | _ => rfl
theorem chkEs_star {es : Es} : ∀ {xs : List Expr}, chkEs c es sc xs = true → ∀ y ∈ xs, ∀ x p, y ≠ .Starred x p := by
  intro xs h y hy
  induction xs generalizing es with
  | nil => cases hy
  | cons x xs ih =>
    cases es with
    | nil => simp [chkEs] at h
    | cons e r =>
      simp only [chkEs, Bool.and_eq_true] at h
      rcases List.mem_cons.mp hy with rfl | hy
      · exact star_ne h.1.1
      · exact ih h.2 hy
theorem evEs_len {es : Es} : ∀ {xs : List Expr} {l : Loc} {h h1 : Hd} {ds : List D}, chkEs c es sc xs = true → evEs cf gc es l h = .ok ds h1 → ds.length = xs.length := by
  intro xs
  induction xs generalizing es with
  | nil =>
    intro l h h1 ds hc he
    cases es with
    | nil => rw [evEs] at he; cases he; rfl
    | cons e r => simp [chkEs] at hc
  | cons x xs ih =>
    intro l h h1 ds hc he
    cases es with
    | nil => simp [chkEs] at hc
    | cons e r =>
      simp only [chkEs, Bool.and_eq_true] at hc
      rw [evEs] at he
      cases h2 : evE cf gc e l h with
      | bad => rw [h2] at he; cases he
      | exc z h3 => rw [h2] at he; cases he
      | ok d h3 =>
        rw [h2] at he
        simp only [Res.bind] at he
        cases h4 : evEs cf gc r l h3 with
        | bad => rw [h4] at he; cases he
        | exc z h5 => rw [h4] at he; cases he
        | ok dr h5 =>
          rw [h4] at he
          cases he
          simp [ih hc.2 h4]
theorem own_map (N : List Str) (is : List Nat) : (ownOf N is).map (·.2) = is := by
  unfold ownOf
  rw [List.map_map]
  exact List.map_id is
theorem blk_of {scope : Scope} {is : List Nat} (h : blkB c.N sc scope is = true) : BlkOk c.N sc scope (ownOf c.N is) := by
  simp only [blkB, Bool.and_eq_true, List.all_eq_true, beq_iff_eq, decide_eq_true_eq] at h
  obtain ⟨⟨⟨⟨h1, h2⟩, h3⟩, h4⟩, h5⟩ := h
  refine ⟨h1, h2, fun p hp => ?_, fun y hy e => ?_, fun y hy e => ?_⟩
  · obtain ⟨i, hi, rfl⟩ := List.mem_map.mp hp
    have := h3 i hi
    simp [List.getD, List.getElem?_eq_getElem this]
  · have := h4 y hy
    rw [e] at this
    simpa using this
  · have := h5 y hy
    simp only [Bool.or_eq_true, Bool.not_eq_true', beq_iff_eq] at this
    rcases this with (z | z) | z
    · rcases e with e | e <;> rw [e] at z <;> simp at z
    · exact .inl (by simpa using z)
    · exact .inr (by simpa using z)
theorem Cxt.blk (C : Cxt ca gc cf c sc W X) {scope : Scope} (hk : scope.kind = .function) (s : Shared) (H : Hp) (D : Addr) (cl : List (Str × Addr)) (fp : List Addr) : Cxt ca gc cf c (relS scope sc) W0 (X.blk s H scope (compEnvC scope cl D X.env) fp) :=
  ⟨C.hN, C.nd, by rw [← C.hs]; rfl, hk, C.calm, C.hu, C.gd, takes0, C.md⟩
/-! ### targets -/
mutual
theorem sndP (C : Cxt ca gc cf c sc W X) {fn : Str → Bool} (hf : X.fn = fn) : ∀ (p : Pt) (x : Expr), chkP c.N sc fn p x = true → PG X x (gP X.K p)
  | .nm i, x, h => by
    unfold chkP at h
    split at h
    · rename_i n pos
      simp only [Bool.and_eq_true, beq_iff_eq, Bool.or_eq_true] at h
      refine snd_nm (by rw [C.hN]; exact C.nd) (by rw [C.hN]; exact h.1.1) (lc_of C h.1.2) ?_
      rw [hf]
      exact h.2.imp id (l_of C)
    · cases h
  | .tp ps, x, h => by
    unfold chkP at h
    split at h
    · rename_i es k pos
      obtain ⟨h1, h2, h3⟩ := sndPs C hf ps es h
      exact snd_tp C.calm h1 (h2 X.env) (h3 X.env) fun ds l l' hb => bindPs_len ps ds l l' hb
    · cases h
theorem sndPs (C : Cxt ca gc cf c sc W X) {fn : Str → Bool} (hf : X.fn = fn) : ∀ (p : Pts) (xs : List Expr), chkPs c.N sc fn p xs = true → PGs X xs (gPs X.K p) ∧ (∀ env, (assignEach xs env).length = p.len) ∧ (∀ env, (assignEach xs env).findIdx? (·.1) = none)
  | .nil, xs, h => by
    cases xs with
    | nil => exact ⟨snd_ps0, fun _ => rfl, fun _ => rfl⟩
    | cons y ys => simp [chkPs] at h
  | .cons p r, xs, h => by
    cases xs with
    | nil => simp [chkPs] at h
    | cons x ys =>
      simp only [chkPs, Bool.and_eq_true] at h
      obtain ⟨⟨h1, h2⟩, h3⟩ := h
      obtain ⟨g1, g2, g3⟩ := sndPs C hf r ys h3
      have e : ∀ env, assignEach (x :: ys) env = (false, assign x env) :: assignEach ys env := fun env => by cases x <;> first | rfl | cases h1
      refine ⟨snd_ps (sndP C hf p x h2) g1 (by rw [e]; rfl), fun env => ?_, fun env => ?_⟩
      · rw [e]
        simp [Pts.len, g2 env]
      · rw [e, List.findIdx?_cons]
        simp [g3 env]
end
/-! ### built-in calls, methods -/
theorem snd_blts {f : Bl} {p pos : Pos} {e : Expr} {es : List Expr} {fs : Loc → Hd → Res (List D)} (C : Cxt ca gc cf c sc W X) (hg : Gl X f.name) (ha : PA X (e :: es) (tA X.K ca W fs)) (hst : ∀ y ∈ e :: es, ∀ x p, y ≠ .Starred x p) :
    PE X (.Call (.Name f.name p) (e :: es) [] pos) (tE X.K ca W fun l h => (fs l h).bind fun ds h1 => match rdsOf h1 ds with
      | some ps => ofO h1 (f.fn ps)
      | none => .bad) := by
  cases f
  · exact snd_blt len_ok hg (C.md.bl _ (by decide +kernel)) rfl ha (by decide +kernel) (by decide +kernel) hst
  · exact snd_blt abs_ok hg (C.md.bl _ (by decide +kernel)) rfl ha (by decide +kernel) (by decide +kernel) hst
  · exact snd_bltTy int_ok hg (C.md.bl _ (by decide +kernel)) rfl ha (by decide +kernel) (by decide +kernel) hst
  · exact snd_blt (max_ok C.calm) hg (C.md.bl _ (by decide +kernel)) rfl ha (by decide +kernel) (by decide +kernel) hst
  · exact snd_blt (min_ok C.calm) hg (C.md.bl _ (by decide +kernel)) rfl ha (by decide +kernel) (by decide +kernel) hst
  · exact snd_blt (sum_ok C.calm) hg (C.md.bl _ (by decide +kernel)) rfl ha (by decide +kernel) (by decide +kernel) hst
  · exact snd_blt (all_ok C.calm) hg (C.md.bl _ (by decide +kernel)) rfl ha (by decide +kernel) (by decide +kernel) hst
  · exact snd_blt (any_ok C.calm) hg (C.md.bl _ (by decide +kernel)) rfl ha (by decide +kernel) (by decide +kernel) hst
  · exact snd_bltTy tuple_ok hg (C.md.bl _ (by decide +kernel)) rfl ha (by decide +kernel) (by decide +kernel) hst
  · exact snd_blt (repr_ok C.hu C.gd) hg (C.md.bl _ (by decide +kernel)) rfl ha (by decide +kernel) (by decide +kernel) hst
end
end Mi

/-! Mi: what is checked keeps its meaning: expressions, the theorem. -/
namespace Mi
open PySem PySem.Spec PyProof.Rows L2
section
variable {X : Cx} {ca : Str → Option Addr} {gc : Str → Option PD} {cf : Str → List D → Hd → Res D} {c : Ck} {sc : Scope} {W : WX}
theorem snd_mths {k : Mt} {o e : Expr} {es : List Expr} {fo : Loc → Hd → Res D} {fs : Loc → Hd → Res (List D)} {apos cpos : Pos} (hk : k.noArg = false) (ho : PE X o (tE X.K ca W fo)) (ha : PA X (e :: es) (tA X.K ca W fs)) (hb : notCall0 o = true) (hline : (apos.endLine == cpos.line) = true) (hst : ∀ y ∈ e :: es, ∀ x p, y ≠ .Starred x p) (hlen : (e :: es).length < 30) :
    PE X (.Call (.Attribute o k.name apos) (e :: es) [] cpos) (tE X.K ca W fun l h => (fo l h).bind fun x h1 => if isLst h1 x then (fs l h1).bind fun ds h2 => mthRun k x ds h2 else .bad) := by
  cases k
  · exact snd_mth (name := "append") PySem.F.slot_list_append PySem.F.type_list_append mt_append (fun _ _ _ _ _ => rAppend_of) ho ha (base_of hb) hline hst hlen
  · exact snd_mth (name := "extend") PySem.F.slot_list_extend PySem.F.type_list_extend mt_extendB (fun _ _ _ _ _ => rExtend_of) ho ha (base_of hb) hline hst hlen
  · cases hk
  · exact snd_mth (name := "pop") PySem.F.slot_list_pop PySem.F.type_list_pop mt_popAt (fun _ _ _ _ _ => rPopAt_of) ho ha (base_of hb) hline hst hlen
  · cases hk
theorem snd_mths0 {k : Mt} {o : Expr} {fo : Loc → Hd → Res D} {apos cpos : Pos} (hk : k.noArg = true) (ho : PE X o (tE X.K ca W fo)) (hb : notCall0 o = true) (hline : (apos.endLine == cpos.line) = true) :
    PE X (.Call (.Attribute o k.name apos) [] [] cpos) (tE X.K ca W fun l h => (fo l h).bind fun x h1 => if isLst h1 x then (Res.ok [] h1).bind fun ds h2 => mthRun k x ds h2 else .bad) := by
  cases k
  · cases hk
  · cases hk
  · exact snd_mth0 (name := "pop") PySem.F.slot_list_pop PySem.F.type_list_pop mt_pop (fun _ _ _ _ _ => rPop_of) ho (base_of hb) hline
  · cases hk
  · exact snd_mth0 (name := "clear") PySem.F.slot_list_clear PySem.F.type_list_clear mt_clear (fun _ _ _ _ _ => rClear_of) ho (base_of hb) hline
theorem bind_bind {α β γ : Type} (x : Res α) (f : α → Hd → Res β) (g : β → Hd → Res γ) : (x.bind f).bind g = x.bind fun a h => (f a h).bind g := by cases x <;> rfl
theorem truD_bool (h : Hd) (b : Bool) : truD h (.dat (.bool b)) = .ok b h := rfl
theorem ok_bind {α β : Type} (a : α) (h : Hd) (g : α → Hd → Res β) : (Res.ok a h).bind g = g a h := rfl
/-! ### the theorem -/
/-- a plain test -/
theorem of_test {x : Expr} {e : E} (h : PE X x (tE X.K ca W (evE cf gc e))) (he : ∀ whole, isTrue x X.env whole = (do let v ← whole; standAt x.pos; holding [v] (truthy v))) : PE X x (tE X.K ca W (evE cf gc e)) ∧ (tstE e = true → PT X x (tT X.K ca W (evT cf gc e))) :=
  ⟨h, fun _ => snd_test h he⟩
/-- the texts of the unary operations are plain tests -/
theorem p1_test {x y : Expr} {o : P1} {a : E} (h : PE X x (tE X.K ca W (evE cf gc (.p1 o a)))) (hy : argOf c sc o x = some y) : PE X x (tE X.K ca W (evE cf gc (.p1 o a))) ∧ (tstE (.p1 o a) = true → PT X x (tT X.K ca W (evT cf gc (.p1 o a)))) := by
  refine of_test h ?_
  cases o with
  | mk0 g =>
    simp only [argOf] at hy
    split at hy
    · intro w; rfl
    · cases hy
  | mkv g f =>
    simp only [argOf] at hy
    split at hy
    · intro w; rfl
    · cases hy
  | isx g tab =>
    simp only [argOf] at hy
    split at hy
    · intro w; rfl
    · cases hy
  | fld f cs =>
    simp only [argOf] at hy
    split at hy
    · intro w; rfl
    · cases hy
  | dsp k =>
    simp only [argOf] at hy
    split at hy
    · intro w; rfl
    · cases hy
def booOp (k : Bool) : BoolOp := if k then .And else .Or
theorem evB_one (k : Bool) (e : E) (l : Loc) (h : Hd) : evB cf gc k (.cons e .nil) l h = evE cf gc e l h := by rw [evB]
theorem evB_two (k : Bool) (e e2 : E) (r : Es) (l : Loc) (h : Hd) : evB cf gc k (.cons e (.cons e2 r)) l h = (evE cf gc e l h).bind fun x h1 => (truD h1 x).bind fun b h2 => if b = k then evB cf gc k (.cons e2 r) l h2 else .ok x h2 := by rw [evB]
theorem truD_inv {h h2 : Hd} {x : D} {b : Bool} (e : truD h x = .ok b h2) : h2 = h := by
  unfold truD at e
  split at e <;> cases e
  rfl
theorem evB_twoT (k : Bool) (e e2 : E) (r : Es) (l : Loc) (h : Hd) : (evB cf gc k (.cons e (.cons e2 r)) l h).bind (fun x h1 => truD h1 x) = (evT cf gc e l h).bind fun b h1 => if b = k then (evB cf gc k (.cons e2 r) l h1).bind (fun x h2 => truD h2 x) else .ok b h1 := by
  rw [evB_two, evT, bind_bind, bind_bind]
  cases evE cf gc e l h with
  | bad => rfl
  | exc x h1 => rfl
  | ok x h1 =>
    simp only [ok_bind]
    cases ht : truD h1 x with
    | bad => rfl
    | exc z h2 => rfl
    | ok b h2 =>
      have := truD_inv ht
      subst this
      simp only [ok_bind]
      by_cases hb : b = k
      · rw [if_pos hb, if_pos hb]
      · rw [if_neg hb, if_neg hb, ok_bind, ht]
mutual
theorem sndE : ∀ (e : E) {X : Cx} {c : Ck} {sc : Scope} {W : WX} (C : Cxt ca gc cf c sc W X) (x : Expr), chkE c e sc x = true → PE X x (tE X.K ca W (evE cf gc e)) ∧ (tstE e = true → PT X x (tT X.K ca W (evT cf gc e)))
  | .var i, X, c, sc, W, C, x, h => by
    unfold chkE at h
    split at h
    · rename_i n pos
      simp only [Bool.and_eq_true, beq_iff_eq] at h
      obtain ⟨o1, o2, o3⟩ := okn h.2
      refine of_test (pe_eq (snd_var (by rw [C.hN]; exact h.1.1) (vis_of C h.1.2) o1 o2) fun l h => ?_) fun _ => rfl
      (rw [evE]; try rfl)
    · cases h
  | .con d, X, c, sc, W, C, x, h => by
    unfold chkE at h
    split at h
    · refine of_test (pe_eq (snd_con h) fun l h => ?_) fun _ => rfl
      (rw [evE]; try rfl)
    · cases h
  | .glo n, X, c, sc, W, C, x, h => by
    unfold chkE at h
    split at h
    · rename_i m pos
      simp only [Bool.and_eq_true, beq_iff_eq] at h
      obtain ⟨⟨⟨rfl, h2⟩, h3⟩, h4⟩ := h
      refine of_test (pe_eq (snd_glo (gl_of C h2) (C.md.cv m) (C.md.cn m h3) (okn h4).1) fun l h => ?_) fun _ => rfl
      (rw [evE]; try rfl)
    · cases h
  | .bin op a b, X, c, sc, W, C, x, h => by
    unfold chkE at h
    split at h
    · rename_i y o z pos
      simp only [Bool.and_eq_true, decide_eq_true_eq] at h
      obtain ⟨⟨rfl, h2⟩, h3⟩ := h
      refine of_test (pe_eq (snd_bin (sndE a C y h2).1 (sndE b C z h3).1) fun l h => ?_) fun _ => rfl
      (rw [evE]; try rfl)
    · cases h
  | .neg a, X, c, sc, W, C, x, h => by
    unfold chkE at h
    split at h
    · rename_i y pos
      refine of_test (pe_eq (snd_neg (sndE a C y h).1) fun l h => ?_) fun _ => rfl
      (rw [evE]; try rfl)
    · cases h
  | .cmp op a b, X, c, sc, W, C, x, h => by
    unfold chkE at h
    split at h
    · rename_i y o z pos
      simp only [Bool.and_eq_true, decide_eq_true_eq] at h
      obtain ⟨⟨⟨rfl, h1⟩, h2⟩, h3⟩ := h
      have ha := (sndE a C y h2).1
      have hb := (sndE b C z h3).1
      refine ⟨pe_eq (snd_cmp C.hu (marks_of h1) ha hb) fun l h => ?_, fun _ => pt_eq (snd_cmpT C.hu (marks_of h1) ha hb) fun l h => ?_⟩
      · (rw [evE]; try rfl)
      · (rw [evT, evE]; try rfl)
    · cases h
  | .cmp2 op op' a b d, X, c, sc, W, C, x, h => by
    unfold chkE at h
    split at h
    · rename_i y o o' m z pos
      simp only [Bool.and_eq_true, decide_eq_true_eq] at h
      obtain ⟨⟨⟨⟨⟨rfl, rfl⟩, h1⟩, h2⟩, h3⟩, h4⟩ := h
      have ha := (sndE a C y h2).1
      have hb := (sndE b C m h3).1
      have hd := (sndE d C z h4).1
      have hm : lastMarks [op, op'] [m, z] = false := marks_of h1
      refine ⟨pe_eq (snd_cmp2 C.hu hm ha hb hd) fun l h => ?_, fun _ => pt_eq (snd_cmp2T C.hu hm ha hb hd) fun l h => ?_⟩
      · (rw [evE]; try rfl)
      · (rw [evT, evE]; try rfl)
    · cases h
  | .boo k es, X, c, sc, W, C, x, h => by
    unfold chkE at h
    split at h
    · rename_i o xs pos
      simp only [Bool.and_eq_true, decide_eq_true_eq] at h
      obtain ⟨rfl, h2⟩ := h
      obtain ⟨h3, h4⟩ := sndB k es C xs h2 pos
      refine ⟨pe_eq h3 fun l h => ?_, fun ht => (pw_eq (h4 (by simpa [tstE] using ht)) fun l h => ?_).pt⟩
      · (rw [evE]; try rfl)
      · (rw [evT, evE]; try rfl)
    · cases h
  | .nt a, X, c, sc, W, C, x, h => by
    unfold chkE at h
    split at h
    · rename_i y pos
      obtain ⟨h1, h2⟩ := sndE a C y h
      refine ⟨pe_eq (snd_not h1) fun l h => ?_, fun ht => pt_eq (snd_notT (h2 (by simpa [tstE] using ht))) fun l h => ?_⟩
      · (rw [evE]; try rfl)
      · rw [evT, evE, bind_bind, evT, bind_bind]
        cases evE cf gc a l h with
        | bad => rfl
        | exc x h1 => rfl
        | ok x h1 =>
          simp only [ok_bind]
          cases truD h1 x <;> rfl
    · cases h
  | .ife d a b, X, c, sc, W, C, x, h => by
    unfold chkE at h
    split at h
    · rename_i t y z pos
      simp only [Bool.and_eq_true] at h
      obtain ⟨⟨⟨h1, h2⟩, h3⟩, h4⟩ := h
      refine ⟨pe_eq (snd_ife ((sndE d C t h2).2 h1) (sndE a C y h3).1 (sndE b C z h4).1) fun l h => ?_, fun ht => by simp [tstE] at ht⟩
      rw [evE, evT, bind_bind]
    · cases h
  | .tup es, X, c, sc, W, C, x, h => by
    unfold chkE at h
    split at h
    · rename_i xs k pos
      refine of_test (pe_eq (snd_tup (sndEs es C xs h)) fun l h => ?_) fun _ => rfl
      (rw [evE]; try rfl)
    · cases h
  | .lst m es, X, c, sc, W, C, x, h => by
    unfold chkE at h
    split at h
    · rename_i xs pos
      refine of_test (pe_eq (snd_lst (m := m) (sndEs es C xs h)) fun l h => ?_) fun _ => rfl
      (rw [evE]; try rfl)
    · cases h
  | .ix a b, X, c, sc, W, C, x, h => by
    unfold chkE at h
    split at h
    · rename_i y z pos
      simp only [Bool.and_eq_true] at h
      obtain ⟨⟨h1, h2⟩, h3⟩ := h
      have hu := C.hu
      refine of_test (pe_eq (snd_ix (by omega) (pix_of h1) (sndE a C y h2).1 (sndE b C z h3).1) fun l h => ?_) fun _ => rfl
      (rw [evE]; try rfl)
    · cases h
  | .sl m a lo hi, X, c, sc, W, C, x, h => by
    unfold chkE at h
    split at h
    · rename_i y lo' hi' p2 pos
      simp only [Bool.and_eq_true] at h
      obtain ⟨⟨h1, h2⟩, h3⟩ := h
      refine of_test (pe_eq (snd_sl (m := m) (sndE a C y h1).1 (sndO lo C lo' h2) (sndO hi C hi' h3)) fun l h => ?_) fun _ => rfl
      (rw [evE]; try rfl)
    · cases h
  | .call f es, X, c, sc, W, C, x, h => by
    unfold chkE at h
    split at h
    · rename_i g p y ys pos
      simp only [Bool.and_eq_true, beq_iff_eq] at h
      obtain ⟨⟨⟨⟨rfl, h1⟩, h2⟩, h3⟩, h4⟩ := h
      obtain ⟨k, n, a, fd, ps, F, hr, hm, hk, hb, hl⟩ := C.md.fn g h2
      refine of_test (pe_eq (snd_call F C.gd hr (gl_of C h1) hm hk hb C.tk hl (sndEs es C (y :: ys) h4) (okn h3).1 (chkEs_star h4)) fun l h => ?_) fun _ => rfl
      (rw [evE]; try rfl)
    · cases h
  | .blt f es, X, c, sc, W, C, x, h => by
    unfold chkE at h
    split at h
    · rename_i g p y ys pos
      simp only [Bool.and_eq_true, beq_iff_eq] at h
      obtain ⟨⟨rfl, h1⟩, h4⟩ := h
      refine of_test (pe_eq (snd_blts C (gl_of C h1) (sndEs es C (y :: ys) h4) (chkEs_star h4)) fun l h => ?_) fun _ => rfl
      (rw [evE]; try rfl)
    · cases h
  | .lis m a, X, c, sc, W, C, x, h => by
    unfold chkE at h
    split at h
    · rename_i g p y pos
      simp only [Bool.and_eq_true, beq_iff_eq] at h
      obtain ⟨⟨⟨rfl, h1⟩, h2⟩, h4⟩ := h
      refine of_test (pe_eq (snd_lis (m := m) (gl_of C h1) (C.md.bl _ (by decide +kernel)) rfl (sndE a C y h4).1 (by decide +kernel) (by decide +kernel) (star_ne h2)) fun l h => ?_) fun _ => rfl
      (rw [evE]; try rfl)
    · cases h
  | .isi a k, X, c, sc, W, C, x, h => by
    unfold chkE at h
    split at h
    · rename_i g p y t p2 pos
      simp only [Bool.and_eq_true, beq_iff_eq] at h
      obtain ⟨⟨⟨⟨⟨rfl, h1⟩, rfl⟩, h2⟩, h3⟩, h4⟩ := h
      have hy := (sndE a C y h4).1
      have hm : X.mg (Str.ofString k.name) = none := C.md.bl _ (by cases k <;> decide +kernel)
      have hv : bootBuiltins (Str.ofString k.name) = some (.type k.name) := by cases k <;> rfl
      refine of_test (pe_eq (snd_isi (cl := k) (gl_of C h1) (C.md.bl _ (by decide +kernel)) rfl (gl_of C h2) hm hv hy (by decide +kernel) (by decide +kernel) (by cases k <;> decide +kernel) (by cases k <;> decide +kernel) (star_ne h3)) fun l h => ?_) fun _ => rfl
      (rw [evE]; try rfl)
    · cases h
  | .mth k o es, X, c, sc, W, C, x, h => by
    unfold chkE at h
    split at h
    · rename_i y n ap xs cp
      simp only [Bool.and_eq_true, beq_iff_eq, decide_eq_true_eq] at h
      obtain ⟨⟨⟨⟨⟨⟨rfl, h1⟩, h2⟩, h3⟩, h4⟩, h5⟩, h6⟩ := h
      have ho := (sndE o C y h5).1
      cases xs with
      | nil =>
        cases es with
        | cons e r => simp [chkEs] at h6
        | nil =>
          refine of_test (pe_eq (snd_mths0 (k := k) (by simpa using h4) ho h1 (by simpa using h2)) fun l h => ?_) fun _ => rfl
          (rw [evE]; try rfl)
      | cons z zs =>
        refine of_test (pe_eq (snd_mths (k := k) (by simpa using h4) ho (sndEs es C (z :: zs) h6) h1 (by simpa using h2) (chkEs_star h6) h3) fun l h => ?_) fun _ => rfl
        (rw [evE]; try rfl)
    · cases h
  | .lc m p it t e, X, c, sc, W, C, x, h => by
    unfold chkE at h
    split at h
    · rename_i y tg iter ifs scope pos
      simp only [Bool.and_eq_true] at h
      obtain ⟨⟨⟨⟨⟨⟨h1, h2⟩, h3⟩, h0⟩, h4⟩, h5⟩, h6⟩ := h
      have bo := blk_of h1
      refine of_test (pe_imp (pe_lc (own := ownOf c.N p.slots) (g := gP X.K p) (tt := tT X.K ca W0 (evC cf gc t)) (te := tE X.K ca W0 (evE cf gc e)) C.calm (by rw [C.hN]; exact C.nd) (sndI it C iter tg h0 h3) (by rw [C.hN, C.hs]; exact bo)
        (fun s H D cl fp => sndP (C.blk bo.kind s H D cl fp) rfl p tg h4) (fun s H D cl fp => sndC t (C.blk bo.kind s H D cl fp) ifs h5) (fun s H D cl fp => (sndE e (C.blk bo.kind s H D cl fp) y h6).1) (fold_of h2 X.env)) fun σ H Q q => ?_) fun _ => rfl
      rw [own_map]
      have z : evE cf gc (.lc m p it t e) = fun l h => (evI cf gc it l h).bind fun w h1 => (lcRun p w (evC cf gc t) (evE cf gc e) l w.items [] h1).bind fun ds h2 => mkL m ds h2 := by
        funext l h
        (rw [evE]; try rfl)
      rw [z] at q
      exact lc_read q
    · cases h
  | .dnil, X, c, sc, W, C, x, h => by
    unfold chkE at h
    split at h
    · refine of_test (pe_imp pe_dnewK fun σ H Q ⟨r, l, h, rl, rh, g⟩ => ?_) fun _ => rfl
      intro p hp
      rw [evE] at g
      exact g r _ (.same rh.tr (same_new hp)) (rh.same (same_new hp)) _ (RP.dct (.inl upd_same) (rh.fresh hp) .nil)
    · cases h
  | .p1 o a, X, c, sc, W, C, x, h => by
    unfold chkE at h
    split at h
    · rename_i y hy
      rw [Bool.and_eq_true] at h
      obtain ⟨h0, h⟩ := h
      have ha := (sndE a C y h).1
      have z : evE cf gc (.p1 o a) = p1F o (evE cf gc a) := by
        funext l h
        (rw [evE]; try rfl)
      refine p1_test ?_ hy
      rw [z]
      cases o with
      | mk0 g =>
        simp only [argOf] at hy
        split at hy
        · rename_i n pn y' pp
          split at hy
          · rename_i hc
            cases hy
            simp only [Bool.and_eq_true, beq_iff_eq] at hc
            obtain ⟨⟨⟨⟨rfl, k1⟩, k2⟩, k3⟩, k4⟩ := hc
            obtain ⟨K0, B, newId, initId, bm, q1, q2, q3, q4, q5⟩ := C.md.m0 n k3
            exact snd_mk0 q1 q2 q3 q4 q5 (gl_of C k1) (okn k2).1 ha (star_ne k4)
          · cases hy
        · cases hy
      | mkv g f =>
        simp only [argOf] at hy
        split at hy
        · rename_i n pn y' pp
          split at hy
          · rename_i hc
            cases hy
            simp only [Bool.and_eq_true, beq_iff_eq] at hc
            obtain ⟨⟨⟨⟨rfl, k1⟩, k2⟩, k3⟩, k4⟩ := hc
            obtain ⟨hr, K0, B, newId, initId, bm, fI, fd, sv, xv, q1, q0, q2, q3, q4, q5, q6, q7, q8, q9, q10⟩ := C.md.xc n f k3
            exact snd_mkv q3 q4 q5 q6 hr q7 (gl_of C k1) q2 q0 (okn k2).1 ha (star_ne k4)
          · cases hy
        · cases hy
      | isx g tab =>
        simp only [argOf] at hy
        split at hy
        · rename_i n pn y' t pt pp
          split at hy
          · rename_i hc
            cases hy
            simp only [Bool.and_eq_true, beq_iff_eq] at hc
            obtain ⟨⟨⟨⟨⟨⟨rfl, k1⟩, rfl⟩, k2⟩, k3⟩, k4⟩, k5⟩ := hc
            obtain ⟨u, cv, q1, q2⟩ := C.md.it t tab k4
            exact snd_isx (gl_of C k1) (C.md.bl _ (by decide +kernel)) rfl (gl_of C k2) q1 q2 ha (by decide +kernel) (by decide +kernel) (okn k3).2.2 (okn k3).1 (star_ne k5)
          · cases hy
        · cases hy
      | fld f cs =>
        simp only [argOf] at hy
        split at hy
        · rename_i y' n pp
          split at hy
          · rename_i hc
            cases hy
            simp only [Bool.and_eq_true, beq_iff_eq] at hc
            obtain ⟨⟨rfl, k1⟩, k2⟩ := hc
            exact snd_fld (C.md.fl n cs k2) (base_of k1) ha
          · cases hy
        · cases hy
      | dsp k =>
        cases a with
        | con d =>
          simp only [argOf] at hy
          split at hy
          · rename_i n j1 p1 kc j p pp
            split at hy
            · rename_i hc
              cases hy
              have hc := beq_iff_eq.mp hc
              subst hc
              have hk : conOk d kc = true := by
                unfold chkE at h
                exact h
              have e2 : evE cf gc (.con d) = fun _ h => .ok (.dat d) h := by
                funext l h
                (rw [evE]; try rfl)
              rw [e2]
              exact snd_dsp hk
            · cases hy
          · cases hy
        | _ => simp [P1.isDsp, isCon] at h0
    · cases h
theorem sndEs : ∀ (es : Es) {X : Cx} {c : Ck} {sc : Scope} {W : WX} (C : Cxt ca gc cf c sc W X) (xs : List Expr), chkEs c es sc xs = true → PA X xs (tA X.K ca W (evEs cf gc es))
  | .nil, X, c, sc, W, C, xs, h => by
    cases xs with
    | nil =>
      refine pa_eq snd_nil fun l h => ?_
      (rw [evEs]; try rfl)
    | cons x ys => simp [chkEs] at h
  | .cons e r, X, c, sc, W, C, xs, h => by
    cases xs with
    | nil => simp [chkEs] at h
    | cons x ys =>
      simp only [chkEs, Bool.and_eq_true] at h
      refine pa_eq (snd_cons (sndE e C x h.1.2).1 (sndEs r C ys h.2) (one_star (star_ne h.1.1))) fun l h => ?_
      (rw [evEs]; try rfl)
theorem sndB : ∀ (k : Bool) (es : Es) {X : Cx} {c : Ck} {sc : Scope} {W : WX} (C : Cxt ca gc cf c sc W X) (xs : List Expr), chkB c es sc xs = true → ∀ pos, PE X (.BoolOp (if k then .And else .Or) xs pos) (tE X.K ca W (evB cf gc k es)) ∧
    (tstEs es = true → PW X (.BoolOp (if k then .And else .Or) xs pos) (tT X.K ca W fun l h => (evB cf gc k es l h).bind fun x h1 => truD h1 x))
  | k, .nil, X, c, sc, W, C, xs, h => by simp [chkB] at h
  | k, .cons e r, X, c, sc, W, C, xs, h => by
    intro pos
    cases xs with
    | nil => simp [chkB] at h
    | cons x ys =>
      unfold chkB at h
      simp only [Bool.and_eq_true] at h
      obtain ⟨h1, h2⟩ := h
      obtain ⟨pe, pt⟩ := sndE e C x h1
      cases r with
      | nil =>
        cases ys with
        | cons y zs => cases h2
        | nil =>
          refine ⟨?_, fun ht => ?_⟩
          · cases k
            · exact pe_eq (pe_one pe) (evB_one _ e)
            · exact pe_eq (pe_one pe) (evB_one _ e)
          · have pt' := pt (by simpa [tstEs] using ht)
            cases k
            · exact pw_eq (pw_or1 pt') fun l h => by rw [evB_one, evT]
            · exact pw_eq (pw_and1 pt') fun l h => by rw [evB_one, evT]
      | cons e2 r2 =>
        cases ys with
        | nil => simp [chkB] at h2
        | cons y zs =>
          have h2 : chkB c (.cons e2 r2) sc (y :: zs) = true := h2
          obtain ⟨pe2, pw2⟩ := sndB k (.cons e2 r2) C (y :: zs) h2 pos
          refine ⟨?_, fun ht => ?_⟩
          · cases k
            · exact pe_eq (snd_orV pe pe2) (evB_two _ e e2 r2)
            · exact pe_eq (snd_andV pe pe2) (evB_two _ e e2 r2)
          · have ht' : tstE e = true ∧ tstEs (.cons e2 r2) = true := by
              rw [tstEs, Bool.and_eq_true] at ht
              exact ht
            cases k
            · refine pw_eq (snd_orT (pt ht'.1) (pw2 ht'.2)) fun l h => ?_
              rw [evB_twoT]
              congr 1
              funext b h1
              cases b <;> rfl
            · refine pw_eq (snd_andT (pt ht'.1) (pw2 ht'.2)) fun l h => ?_
              rw [evB_twoT]
              congr 1
              funext b h1
              cases b <;> rfl
theorem sndO : ∀ (o : Eo) {X : Cx} {c : Ck} {sc : Scope} {W : WX} (C : Cxt ca gc cf c sc W X) (x : Option Expr), chkO c o sc x = true → PO X x (tO X.K ca W (evO cf gc o))
  | .no, X, c, sc, W, C, x, h => by
    cases x with
    | some y => simp [chkO] at h
    | none =>
      refine po_eq snd_noPart fun l h => ?_
      (rw [evO]; try rfl)
  | .yes e, X, c, sc, W, C, x, h => by
    cases x with
    | none => simp [chkO] at h
    | some y =>
      have h : chkE c e sc y = true := by simpa [chkO] using h
      refine po_eq (snd_part (sndE e C y h).1) fun l h => ?_
      (rw [evO]; try rfl)
theorem sndC : ∀ (o : Eo) {X : Cx} {c : Ck} {sc : Scope} {W : WX} (C : Cxt ca gc cf c sc W X) (xs : List Expr), chkT c o sc xs = true → PTs X xs (tT X.K ca W (evC cf gc o))
  | .no, X, c, sc, W, C, xs, h => by
    cases xs with
    | cons x ys => simp [chkT] at h
    | nil => exact ⟨fun pins s σ H Q I w => pts_nil.run pins s σ H Q I (by
        obtain ⟨r, l, h, rl, rh, g⟩ := w
        rw [evC] at g
        exact g.ok rh)⟩
  | .yes e, X, c, sc, W, C, xs, h => by
    cases xs with
    | nil => simp [chkT] at h
    | cons x ys =>
      cases ys with
      | cons y zs => simp [chkT] at h
      | nil =>
        have h : tstE e = true ∧ chkE c e sc x = true := by simpa [chkT] using h
        refine pts_one (pt_eq ((sndE e C x h.2).2 h.1) fun l h => ?_)
        (rw [evC, evT]; try rfl)
theorem sndI : ∀ (it : Itr) {X : Cx} {c : Ck} {sc : Scope} {W : WX} (C : Cxt ca gc cf c sc W X) (x tg : Expr), enmOk it tg = true → chkI c it sc x = true → PI X tg x (tI X.K ca W (evI cf gc it))
  | .seq e, X, c, sc, W, C, x, tg, _, h => by
    have h : chkE c e sc x = true := by simpa [chkI] using h
    refine pi_eq (snd_seq (sndE e C x h).1) fun l h => ?_
    (rw [evI]; try rfl)
  | .rng es, X, c, sc, W, C, x, tg, _, h => by
    unfold chkI at h
    split at h
    · rename_i g p xs pos
      simp only [Bool.and_eq_true, beq_iff_eq, Bool.or_eq_true] at h
      obtain ⟨⟨⟨rfl, h1⟩, h2⟩, h3⟩ := h
      have pa := sndEs es C xs h3
      have st := chkEs_star h3
      rcases h2 with h2 | h2
      · match xs, h2, h3, pa, st with
        | [y], _, h3, pa, st =>
          refine pi_eq (snd_rng1 (gl_of C h1) (C.md.bl _ (by decide +kernel)) pa (st y List.mem_cons_self) fun l h ds h1 he => evEs_len h3 he) fun l h => ?_
          (rw [evI]; try rfl)
      · match xs, h2, h3, pa, st with
        | [y, z], _, h3, pa, st =>
          refine pi_eq (snd_rng2 (gl_of C h1) (C.md.bl _ (by decide +kernel)) pa (st y List.mem_cons_self) (st z (List.mem_cons_of_mem _ List.mem_cons_self)) fun l h ds h1 he => evEs_len h3 he) fun l h => ?_
          (rw [evI]; try rfl)
    · cases h
  | .enm e, X, c, sc, W, C, x, tg, ht, h => by
    unfold chkI at h
    split at h
    · rename_i g p y pos
      simp only [Bool.and_eq_true, beq_iff_eq] at h
      obtain ⟨⟨⟨rfl, h1⟩, h2⟩, h3⟩ := h
      cases tg with
      | Tuple elts kk tpos =>
        refine pi_eq (snd_enm (gl_of C h1) (C.md.bl _ (by decide +kernel)) (sndE e C y h3).1 (star_ne h2)) fun l h => ?_
        (rw [evI]; try rfl)
      | _ => cases ht
    · cases h
end
end
end Mi

/-! Mi: what is checked keeps its meaning: statements, defs. -/
namespace Mi
open PySem PySem.Spec PyProof.Rows L2
section
variable {X : Cx} {ca : Str → Option Addr} {gc : Str → Option PD} {cf : Str → List D → Hd → Res D} {c : Ck} {sc : Scope} {W : WX}
theorem ps_eq {x : Stmt} {f g : Loc → Hd → Out} (h : PS X x (tS X.K ca W f)) (e : ∀ l h, g l h = f l h) : PS X x (tS X.K ca W g) := by
  have z : g = f := funext fun l => funext (e l)
  rw [z]
  exact h
theorem pss_eq {x : List Stmt} {f g : Loc → Hd → Out} (h : PSs X x (tS X.K ca W f)) (e : ∀ l h, g l h = f l h) : PSs X x (tS X.K ca W g) := by
  have z : g = f := funext fun l => funext (e l)
  rw [z]
  exact h
theorem sw_no {v : Expr} {t : Option Expr} {n : Nat} {env : Env} (h : notComp v = true) : swapsWith v t n env = pure false := by
  cases v <;> first | rfl | cases h
theorem sw_lc {elt : Expr} {gs : List Comprehension} {s : Scope} {p py : Pos} {n : Str} {k : Nat} {env : Env} (hk : env.scope.kind = .function) (h : swapB env.scope n py (.ListComp elt gs s p) = false) : swapsWith (.ListComp elt gs s p) (some (.Name n py)) k env = pure false := by
  have hb : env.blockKind = .function := by unfold Env.blockKind; rw [hk]; rfl
  have h' : ((env.kindOf n == some .local) && py.line == p.line && !(s.names.any fun (m, k) => m == n && (k == .local || k == .cell))) = false := h
  unfold swapsWith
  simp only [hb, Expr.pos]
  rw [show ((ScopeKind.function == ScopeKind.function) && (env.kindOf n == some .local) && py.line == p.line && !(s.names.any fun (m, k) => m == n && (k == .local || k == .cell))) = false from by
    rw [show (ScopeKind.function == ScopeKind.function) = true from rfl, Bool.true_and]
    exact h']
theorem sw_sub {v o i : Expr} {tp : Pos} {n : Nat} {env : Env} : swapsWithSole [.Subscript o i tp] v n env = pure false := by
  cases v <;> rfl
theorem sw_tup {v : Expr} {es : List Expr} {k : Nat} {tp : Pos} {n : Nat} {env : Env} : swapsWithSole [.Tuple es k tp] v n env = pure false := by
  cases v <;> rfl
theorem st_sub {v o i : Expr} {tp : Pos} {env : Env} : swappedStores [.Subscript o i tp] v env = pure none := by
  cases v <;> rfl
theorem st_tup {v : Expr} {es : List Expr} {k : Nat} {tp : Pos} {env : Env} (h : notTup v = true) : swappedStores [.Tuple es k tp] v env = pure none := by
  cases v <;> first | rfl | cases h
theorem star_any {vs : List Expr} (h : vs.all noStar = true) : (vs.any fun | .Starred .. => true | _ => false) = false := by
  induction vs with
  | nil => rfl
  | cons v vs ih =>
    rw [List.all_cons, Bool.and_eq_true] at h
    rw [List.any_cons, ih h.2, Bool.or_false]
    cases v <;> first | rfl | (have := h.1; cases this)
theorem par_two {env : Env} {x y : Str} {px py pt pt2 : Pos} {kt k2 : Nat} {vs : List Expr} (hk : env.scope.kind = .function) (hl : vs.length = 2) (h : parB env.scope [x, y] [px.line, py.line] vs = true) :
    swappedStores [.Tuple [.Name x px, .Name y py] kt pt] (.Tuple vs k2 pt2) env = pure (some [x, y]) := by
  have hb : env.blockKind = .function := by unfold Env.blockKind; rw [hk]; rfl
  simp only [parB, Bool.and_eq_true, List.all_cons, List.all_nil, Bool.and_true, decide_eq_true_eq, Bool.not_eq_true', beq_iff_eq, List.headD_cons] at h
  obtain ⟨⟨⟨⟨⟨⟨h1, h2⟩, h3⟩, h4, h5⟩, h6⟩, h7⟩, h8⟩ := h
  have k1 : env.kindOf x = some .local := beq_iff_eq.mp h1
  have k2 : env.kindOf y = some .local := beq_iff_eq.mp h2
  have hne : x ≠ y := by simpa using h3
  unfold swappedStores
  simp only [hb, hl, star_any h6, h7, h8, k1, k2, List.filterMap_cons, List.filterMap_nil, Expr.pos, List.head?_cons, Option.map_some, Option.getD_some, h5, List.length_cons, List.length_nil]
  simp [hne, Ne.symm hne, List.eraseDups_cons, List.filter_cons]
  intro v hv hm
  have := List.all_eq_true.mp h6 v hv
  cases v <;> first | (cases this; done) | (cases hm; done)
theorem par_three {env : Env} {x y z : Str} {px py pz pt pt2 : Pos} {kt k2 : Nat} {vs : List Expr} (hk : env.scope.kind = .function) (hl : vs.length = 3) (h : parB env.scope [x, y, z] [px.line, py.line, pz.line] vs = true) :
    swappedStores [.Tuple [.Name x px, .Name y py, .Name z pz] kt pt] (.Tuple vs k2 pt2) env = pure (some [x, y, z]) := by
  have hb : env.blockKind = .function := by unfold Env.blockKind; rw [hk]; rfl
  simp only [parB, Bool.and_eq_true, List.all_cons, List.all_nil, Bool.and_true, decide_eq_true_eq, Bool.not_eq_true', beq_iff_eq, List.headD_cons] at h
  obtain ⟨⟨⟨⟨⟨⟨h1, h2, h2'⟩, h3⟩, h4, h5, h5'⟩, h6⟩, h7⟩, h8⟩ := h
  have k1 : env.kindOf x = some .local := beq_iff_eq.mp h1
  have k2 : env.kindOf y = some .local := beq_iff_eq.mp h2
  have k3 : env.kindOf z = some .local := beq_iff_eq.mp h2'
  have hne : (x ≠ y ∧ x ≠ z) ∧ y ≠ z := by simpa using h3
  unfold swappedStores
  simp only [hb, hl, star_any h6, h7, h8, k1, k2, k3, List.filterMap_cons, List.filterMap_nil, Expr.pos, List.head?_cons, Option.map_some, Option.getD_some, h5, h5', List.length_cons, List.length_nil]
  simp [hne.1.1, hne.1.2, hne.2, Ne.symm hne.1.1, Ne.symm hne.1.2, Ne.symm hne.2, List.eraseDups_cons, List.filter_cons]
  intro v hv hm
  have := List.all_eq_true.mp h6 v hv
  cases v <;> first | (cases this; done) | (cases hm; done)

/-! ### raise, try -/
theorem snd_rse {cls fld : Str} {C fI : Addr} {B newId initId : String} {bm : List Value} {fd : FuncData} {sv xv : Str} {a : Expr} {fa : Loc → Hd → Res D} {p pos pos2 : Pos} (hca : ca cls = some C) (T : OxC X.K C B newId initId bm) (iC : PySem.W.findIn X.K (.ref C) "__init__" = some (some (.ref fI)))
    (tI : PySem.W.typeIn X.K (.ref fI) = some (.type "function")) (F1 : FnOk X.prog X.w X.K X.mg X.base (L2.CX X.prog X.w) 1 fI fd [sv, xv] (spI C fld)) (hr : Room 2 X.A) (hb : Binds X.K fd [sv, xv] []) (hg : Gl X cls) (hm : X.mg cls = some (.ref C)) (hc : X.calm = true) (tk : Takes X W)
    (ha : PE X a (tE X.K ca W fa)) (hdb : (cls == ("__debug__" : Str)) = false) (hst : ∀ x p, a ≠ .Starred x p) :
    PS X (.Raise (some (.Call (.Name cls p) [a] [] pos)) none pos2) (tS X.K ca W fun l h => (fa l h).out l fun x h1 => match x with
      | .dat d => .exc ⟨cls, [(fld, d)]⟩ l h1
      | _ => .bad) := by
  refine ps_imp (ps_raise hc tk (pmkG T iC tI F1 hr hb hg hm (pa_cons ha pa_nil (one_star hst)) hdb (one_star hst))) fun D σ H ⟨r, l, h, rl, rh, g⟩ => ?_
  refine ⟨r, l, h, rl, rh, (Go.of_out rl g).imp fun x h1 r1 H1 e1 rh1 g1 v rv => ⟨v, rfl, fun d hd => ?_⟩⟩
  cases x with
  | dat q =>
    have e : Ext r1 H1 r1 (upd H1 d (.xd [(fld, v)])) := .same rh1.tr (same_new hd)
    exact g1 r1 _ σ _ _ e (rh1.same (same_new hd)) ((rl.ext e1).ext e) ⟨C, hca, rfl, .inr ⟨d, fld, v, q, rfl, rfl, rh1.fresh hd, upd_same, RP.sm rv (same_new hd)⟩⟩
  | ref n => exact False.elim g1
  | scr ns => exact False.elim g1
theorem snd_tri {cls fld n : Str} {C : Addr} {i : Nat} {a : Expr} {fa : Loc → Hd → Res D} {p p0 p2 p3 p4 p5 pos : Pos} (hca : ca cls = some C) (hm : X.mg cls = some (.ref C)) (T : XfC X.K C) (hno : PySem.W.findIn X.K (.ref C) fld = some none) (hx : PySem.W.exmOne X.K (.ref C) (.ref C) = some true)
    (hs : X.stack = X.env :: X.outer) (hf : X.env.frame = some X.env.locals) (hN : X.N.Nodup) (hi : X.N[i]? = some n) (hln : X.env.scope.names.lookup n = some .local) (hg : Gl X cls) (hdb : (cls == ("__debug__" : Str)) = false) (hd1 : (n == ("__debug__" : Str)) = false) (hd2 : (n == ("__classdict__" : Str)) = false) (tk : Takes X W)
    (ha : ∀ (W' : WX) (pn : List (Addr × Obj)) (xe : Value → Shared → Prop), Takes (X.tr pn xe) W' → PE (X.tr pn xe) a (tE X.K ca W' fa)) :
    PS X (.Try [.Return (some a) p0] [.ExceptHandler (some (.Name cls p)) (some n) [.Return (some (.Attribute (.Name n p2) fld p3)) p4] p5] [] [] pos) (tS X.K ca W fun l h => triRun cls fld i l (fa l h)) := by
  refine ps_imp (ps_try_as (Wout := W) (tb := fun W' => tS X.K ca W' fun l h => (fa l h).out l fun x h1 => .rt x h1) (i := i) hs hf hN hi hln (c := .ref C) ⟨hg, hdb, .inl hm⟩ tk (fun W' pn xe tk' _ => pss_one (snd_ret (ha W' pn xe tk')))
    (fun ad oe c d pn hz hfl => pss_one (ps_ret (pe_xf (C := C) T hno hz hfl (pe_var (X := X.suite ad ((ad, oe) :: pn)) (i := i) hi (.inl hln) hd1 hd2))))) fun D σ H ⟨r, l, h, rl, rh, g⟩ => ⟨r, l, h, rl, rh, ?_⟩
  dsimp only at g ⊢
  cases he : fa l h with
  | bad => rw [he] at g; exact g
  | ok x h1 => rw [he] at g; exact g
  | exc x h1 =>
    rw [he] at g
    dsimp only [triRun] at g
    split at g
    · rename_i hc
      intro r1 H1 σ1 cl dd e1 rh1 rl1 rx
      obtain ⟨C', q1, rfl, q3⟩ := rx
      rw [hc.1, hca] at q1
      cases q1
      refine ⟨true, hx, fun _ ad had => ?_, fun z => by cases z⟩
      have hlt : i < σ1.length := by rw [← rl1.1]; exact hc.2
      obtain ⟨c0, fs0⟩ := x
      rcases q3 with ⟨q4, rfl⟩ | ⟨d, f, v, q, q4, rfl, q6, q7, q8⟩
      · dsimp only at q4
        subst q4
        exact False.elim g
      · dsimp only at q4
        subst q4
        dsimp only at g
        split at g
        · rename_i hf2
          subst hf2
          refine ⟨.ref ad, List.getElem?_set_self hlt, rfl, rfl, d, _, v, rfl, q7, ?_, g r1 H1 v e1 rh1 q8⟩
          simp [List.lookup]
        · exact False.elim g
    · exact False.elim g
/-- around a def's body -/
structure Cxs (ca : Str → Option Addr) (gc : Str → Option PD) (cf : Str → List D → Hd → Res D) (c : Ck) (sc : Scope) (W : WX) (X : Cx) : Prop extends Cxt ca gc cf c sc W X where
  ow : PassesOwn (model X.prog X.w) X.A X.env X.xe
  stk : X.stack = X.env :: X.outer
  frm : X.env.frame = some X.env.locals
  fn : X.fn = fun _ => true
mutual
theorem sndS (C : Cxs ca gc cf c sc W X) : ∀ (s : S) (x : Stmt), chkS c sc s x = true → PS X x (tS X.K ca W (exS cf gc s))
  | .asg p e, x, h => by
    unfold chkS at h
    split at h
    · rename_i t v pos
      split at h
      · rename_i i
        split at h
        · rename_i n py
          simp only [Bool.and_eq_true, beq_iff_eq, Bool.or_eq_true] at h
          obtain ⟨⟨⟨h1, h2⟩, h3⟩, h4⟩ := h
          have hN : X.N.Nodup := by rw [C.hN]; exact C.nd
          have hi : X.N[i]? = some n := by rw [C.hN]; exact h1
          have pe := (sndE e C.toCxt v h3).1
          rcases h4 with h4 | ⟨h4, h5⟩
          · refine ps_eq (snd_asg hN hi (lc_of C.toCxt h2) (.inl (by rw [C.fn])) pe (sw_no h4)) fun l h => ?_
            (rw [exS]; try rfl)
          · cases v <;> first | cases h5 | skip
            rename_i elt gs s p
            cases hs : swapB sc n py (.ListComp elt gs s p) with
            | false =>
              refine ps_eq (snd_asg hN hi (lc_of C.toCxt h2) (.inl (by rw [C.fn])) pe (sw_lc (by rw [C.hs]; exact C.kd) (by rw [C.hs]; exact hs))) fun l h => ?_
              (rw [exS]; try rfl)
            | true =>
              simp only [swapB, Bool.and_eq_true, Bool.not_eq_true'] at hs
              cases e <;> first | cases h4 | skip
              rename_i m pt it t e
              unfold chkE at h3
              split at h3
              · rename_i y tg iter ifs scope pos' heq
                cases heq
                simp only [Bool.and_eq_true] at h3
                obtain ⟨⟨⟨⟨⟨⟨g1, g2⟩, g3⟩, g0⟩, g4⟩, g5⟩, g6⟩ := h3
                have bo := blk_of g1
                have C0 := C.toCxt
                refine ps_imp (ps_setLc (i := i) (own := ownOf c.N pt.slots) (g := gP X.K pt) (tt := tT X.K ca W0 (evC cf gc t)) (te := tE X.K ca W0 (evE cf gc e)) C.calm hN hi (l_of C0 hs.1.1) (sw_true (by rw [C.hs]; exact C.kd) (l_of C0 hs.1.1) hs.1.2 hs.2) (sndI it C0 _ _ g0 g3) (by rw [C.hN, C.hs]; exact bo)
                  (fun s H D cl fp => sndP (C0.blk bo.kind s H D cl fp) rfl pt _ g4) (fun s H D cl fp => sndC t (C0.blk bo.kind s H D cl fp) _ g5) (fun s H D cl fp => (sndE e (C0.blk bo.kind s H D cl fp) _ g6).1) (fold_of g2 X.env)) fun D σ H q => ?_
                rw [own_map]
                have z : exS cf gc (.asg (.nm i) (.lc m pt it t e)) = fun l h => (((evI cf gc it l h).bind fun w h1 => (lcRun pt w (evC cf gc t) (evE cf gc e) l w.items [] h1).bind fun ds h2 => mkL m ds h2)).out l fun x h1 => .nx (l.set i (some x)) h1 := by
                  funext l h
                  rw [exS, evE]
                rw [z] at q
                exact lc_read (asg_read q)
              · cases h3
        · cases h
      · rename_i ps
        split at h
        · rename_i es k tp
          simp only [Bool.and_eq_true] at h
          obtain ⟨⟨h1, h2⟩, h3⟩ := h
          have hg : PG X (.Tuple es k tp) (gP X.K (.tp ps)) := sndP C.toCxt C.fn (.tp ps) _ (by unfold chkP; exact h2)
          refine ps_eq (snd_asgP (sndE e C.toCxt v h3).1 hg sw_tup (st_tup h1)) fun l h => ?_
          (rw [exS]; try rfl)
        · cases h
    · cases h
  | .par is es, x, h => by
    unfold chkS at h
    have hk : X.env.scope.kind = .function := by rw [C.hs]; exact C.kd
    have hN : X.N.Nodup := by rw [C.hN]; exact C.nd
    split at h
    · rename_i x px y py kt pt vs k2 pt2 pos
      split at h
      · rename_i i j
        simp only [Bool.and_eq_true, beq_iff_eq] at h
        obtain ⟨⟨⟨⟨h1, h2⟩, h3⟩, h4⟩, h5⟩ := h
        have hp := par_two (env := X.env) (px := px) (py := py) (pt := pt) (pt2 := pt2) (kt := kt) (k2 := k2) hk h4 (by rw [C.hs]; exact h3)
        have pa := sndEs es C.toCxt vs h5
        simp only [parB, Bool.and_eq_true, List.all_cons, List.all_nil, Bool.and_true, decide_eq_true_eq] at h3
        have hne : x ≠ y := by simpa using h3.1.1.1.1.2
        have hij : i ≠ j := fun e => hne (by rw [e, h2] at h1; exact (Option.some.inj h1).symm)
        match vs, h4, pa, hp with
        | [a, b], _, pa, hp =>
          refine ps_eq (snd_par2 (i := i) (j := j) C.calm hN (by rw [C.hN]; exact h1) (by rw [C.hN]; exact h2) hij (l_of C.toCxt h3.1.1.1.1.1.1) (l_of C.toCxt h3.1.1.1.1.1.2) pa hp) fun l h => ?_
          (rw [exS]; try rfl)
      · cases h
    · rename_i x px y py z pz kt pt vs k2 pt2 pos
      split at h
      · rename_i i j k
        simp only [Bool.and_eq_true, beq_iff_eq] at h
        obtain ⟨⟨⟨⟨⟨h1, h2⟩, h2'⟩, h3⟩, h4⟩, h5⟩ := h
        have hp := par_three (env := X.env) (px := px) (py := py) (pz := pz) (pt := pt) (pt2 := pt2) (kt := kt) (k2 := k2) hk h4 (by rw [C.hs]; exact h3)
        have pa := sndEs es C.toCxt vs h5
        simp only [parB, Bool.and_eq_true, List.all_cons, List.all_nil, Bool.and_true, decide_eq_true_eq] at h3
        have hne : (x ≠ y ∧ x ≠ z) ∧ y ≠ z := by simpa using h3.1.1.1.1.2
        have hij : i ≠ j := fun e => hne.1.1 (by rw [e, h2] at h1; exact (Option.some.inj h1).symm)
        have hik : i ≠ k := fun e => hne.1.2 (by rw [e, h2'] at h1; exact (Option.some.inj h1).symm)
        have hjk : j ≠ k := fun e => hne.2 (by rw [e, h2'] at h2; exact (Option.some.inj h2).symm)
        match vs, h4, pa, hp with
        | [a, b, d], _, pa, hp =>
          refine ps_eq (snd_par3 (i := i) (j := j) (k := k) C.calm hN (by rw [C.hN]; exact h1) (by rw [C.hN]; exact h2) (by rw [C.hN]; exact h2') hij hik hjk (l_of C.toCxt h3.1.1.1.1.1.1) (l_of C.toCxt h3.1.1.1.1.1.2.1) (l_of C.toCxt h3.1.1.1.1.1.2.2) pa hp) fun l h => ?_
          (rw [exS]; try rfl)
      · cases h
    · cases h
  | .put o i v, x, h => by
    unfold chkS at h
    split at h
    · rename_i y z tp x pos
      simp only [Bool.and_eq_true] at h
      obtain ⟨⟨⟨h1, h2⟩, h3⟩, h4⟩ := h
      refine ps_eq (snd_put (sndE v C.toCxt x h2).1 (sndE o C.toCxt y h3).1 (sndE i C.toCxt z h4).1 sw_sub st_sub (fun v => by cases z <;> first | rfl | cases h1)) fun l h => ?_
      (rw [exS]; try rfl)
    · cases h
  | .aug op i e, x, h => by
    unfold chkS at h
    split at h
    · rename_i n p o v pos
      simp only [Bool.and_eq_true, Bool.or_eq_true, decide_eq_true_eq, beq_iff_eq] at h
      obtain ⟨⟨⟨⟨rfl, h1⟩, h2⟩, h3⟩, h4⟩ := h
      refine ps_eq (snd_aug (i := i) (by rw [C.hN]; exact C.nd) (by rw [C.hN]; exact h2) (lc_of C.toCxt h3) (.inl (by rw [C.fn])) h1 (sndE e C.toCxt v h4).1) fun l h => ?_
      (rw [exS]; try rfl)
    · cases h
  | .exp e, x, h => by
    unfold chkS at h
    split at h
    · rename_i v pos
      simp only [Bool.and_eq_true] at h
      refine ps_eq (snd_exp (sndE e C.toCxt v h.2).1 (sw_no h.1)) fun l h => ?_
      (rw [exS]; try rfl)
    · cases h
  | .ret e, x, h => by
    unfold chkS at h
    split at h
    · rename_i v pos
      refine ps_eq (snd_ret (sndE e C.toCxt v h).1) fun l h => ?_
      (rw [exS]; try rfl)
    · cases h
  | .retN, x, h => by
    unfold chkS at h
    split at h
    · refine ps_eq snd_retN fun l h => ?_
      (rw [exS]; try rfl)
    · cases h
  | .ifs t a b, x, h => by
    unfold chkS at h
    split at h
    · rename_i y ys zs pos
      simp only [Bool.and_eq_true] at h
      obtain ⟨⟨⟨h1, h2⟩, h3⟩, h4⟩ := h
      refine ps_eq (snd_ifs ((sndE t C.toCxt y h2).2 h1) (sndSs C a ys h3) (sndSs C b zs h4)) fun l h => ?_
      (rw [exS]; try rfl)
    · cases h
  | .whl t b, x, h => by
    unfold chkS at h
    split at h
    · rename_i y ys pos
      simp only [Bool.and_eq_true] at h
      obtain ⟨⟨h1, h2⟩, h3⟩ := h
      refine ps_eq (snd_whl C.ow ((sndE t C.toCxt y h2).2 h1) (sndSs C b ys h3)) fun l h => ?_
      (rw [exS]; try rfl)
    · cases h
  | .for p it b, x, h => by
    unfold chkS at h
    split at h
    · rename_i tg iter ys pos
      simp only [Bool.and_eq_true] at h
      obtain ⟨⟨⟨⟨h1, h2⟩, h0⟩, h3⟩, h4⟩ := h
      refine ps_eq (snd_for C.ow C.calm (sndI it C.toCxt iter tg h0 h2) (sndP C.toCxt C.fn p tg h3) (sndSs C b ys h4) (fold_of h1 X.env)) fun l h => ?_
      (rw [exS]; try rfl)
    · cases h
  | .pas, x, h => by
    unfold chkS at h
    split at h
    · refine ps_eq snd_pas fun l h => ?_
      (rw [exS]; try rfl)
    · refine ps_eq snd_doc fun l h => ?_
      (rw [exS]; try rfl)
    · cases h
  | .brk, x, h => by
    unfold chkS at h
    split at h
    · refine ps_eq snd_brk fun l h => ?_
      (rw [exS]; try rfl)
    · cases h
  | .cnt, x, h => by
    unfold chkS at h
    split at h
    · refine ps_eq snd_cnt fun l h => ?_
      (rw [exS]; try rfl)
    · cases h
  | .stop, x, h => by
    refine ps_eq snd_stop fun l h => ?_
    (rw [exS]; try rfl)
  | .rse cls fld e, x, h => by
    unfold chkS at h
    split at h
    · rename_i g p y pos pos2
      simp only [Bool.and_eq_true, beq_iff_eq] at h
      obtain ⟨⟨⟨⟨⟨rfl, h1⟩, h2⟩, h3⟩, h4⟩, h5⟩ := h
      obtain ⟨hr, K0, B, newId, initId, bm, fI, fd, sv, xv, k1, k0, k2, k3, k4, k5, k6, k7, k8, k9, k10⟩ := C.md.xc g fld h3
      refine ps_eq (snd_rse k1 k3 k4 k5 k6 hr k7 (gl_of C.toCxt h1) k2 C.calm C.tk (sndE e C.toCxt y h5).1 (okn h2).1 (star_ne h4)) fun l h => ?_
      (rw [exS]; try rfl)
    · cases h
  | .tri e cls fld i, x, h => by
    unfold chkS at h
    split at h
    · rename_i y p0 g p n n2 p2 fl p3 p4 p5 pos
      simp only [Bool.and_eq_true, beq_iff_eq] at h
      obtain ⟨⟨⟨⟨⟨⟨⟨⟨⟨rfl, h1⟩, h2⟩, h3⟩, h4⟩, rfl⟩, h6⟩, h7⟩, rfl⟩, h9⟩ := h
      obtain ⟨hr, K0, B, newId, initId, bm, fI, fd, sv, xv, k1, k0, k2, k3, k4, k5, k6, k7, k8, k9, k10⟩ := C.md.xc g fl h3
      have C0 := C.toCxt
      refine ps_eq (snd_tri (fa := evE cf gc e) k1 k2 k8 k9 k10 C.stk C.frm (by rw [C.hN]; exact C.nd) (by rw [C.hN]; exact h4) (l_of C0 h6) (gl_of C0 h1) (okn h2).1 (okn h7).1 (okn h7).2.1 C.tk fun W' pn xe tk => ?_) fun l h => ?_
      · exact (sndE e (X := X.tr pn xe) ⟨C0.hN, C0.nd, C0.hs, C0.kd, C0.calm, C0.hu, C0.gd, tk, C0.md⟩ y h9).1
      · (rw [exS]; try rfl)
    · cases h
theorem sndSs (C : Cxs ca gc cf c sc W X) : ∀ (ss : Ss) (xs : List Stmt), chkSs c sc ss xs = true → PSs X xs (tS X.K ca W (exSs cf gc ss))
  | .nil, xs, h => by
    cases xs with
    | nil =>
      refine pss_eq snd_ss0 fun l h => ?_
      (rw [exSs]; try rfl)
    | cons x ys => simp [chkSs] at h
  | .cons s r, xs, h => by
    cases xs with
    | nil => simp [chkSs] at h
    | cons x ys =>
      simp only [chkSs, Bool.and_eq_true] at h
      refine pss_eq (snd_ss (sndS C s x h.1) (sndSs C r ys h.2)) fun l h => ?_
      (rw [exSs]; try rfl)
end
end
end Mi

/-! Mi: defs. -/
namespace Mi
open PySem PySem.Spec PyProof.Rows L2
section
variable {K : Frg} {ca : Str → Option Addr} {r r' : Rho} {H H' : Hp} {h h1 : Hd}
theorem Stb.cut {t : List Addr} (e1 : r'.at_ = r.at_ ++ t) (e2 : r'.hid = r.hid) : Stb r' H r H :=
  ⟨fun b u x y => ⟨x, fun w => y.1 (by rw [e1]; exact List.mem_append_left _ w), fun w => y.2 (by rw [e2]; exact w)⟩, fun b xs x _ => x⟩
theorem Ext.cut (e : Ext r H r' H') : Ext r H r H' :=
  ⟨⟨fun a u x y => ⟨(e.stb.rd a u x y).1, y⟩, e.stb.ex⟩, ⟨[], by simp⟩, rfl, e.hk⟩
theorem RX.cut {x : Xc} {cls : Value} {dd : Option Addr} (q : RX K ca r' H x cls dd) (s : Stb r' H r H) (e : ∀ a, Off r' a → Off r a) : RX K ca r H x cls dd := by
  obtain ⟨C, h1, h2, h3⟩ := q
  refine ⟨C, h1, h2, h3.imp id ?_⟩
  rintro ⟨d, f, v, p, z1, z2, z3, z4, z5⟩
  exact ⟨d, f, v, p, z1, z2, e d z3, z4, RP.mono s _ _ z5⟩
/-- one object more of those behind -/
theorem RH.cut1 (q : RH K r' H h) {t : List Addr} (e1 : r'.at_ = r.at_ ++ t) (e2 : r'.hid = r.hid) {m : Nat} {a : Addr} {o : Ob} (hm : r.at_.length ≤ m) (ha : r'.at_[m]? = some a) (ho : h[m]? = some o) : RH K (r.push a) H (h.take r.at_.length ++ [o]) ∧ Stb r' H (r.push a) H ∧ a ∉ r.at_ := by
  have hl := q.len
  rw [e1, List.length_append] at hl
  have nd := q.nd
  rw [e1] at nd
  have na : a ∈ t := by
    rw [e1, List.getElem?_append_right hm] at ha
    exact List.mem_of_getElem? ha
  have nr : a ∉ r.at_ := fun z => (List.nodup_append.mp nd).2.2 a z a na rfl
  have st : Stb r' H (r.push a) H := ⟨fun b u x y => ⟨x, fun w => y.1 (by
      rw [e1]
      rcases List.mem_append.mp w with w | w
      · exact List.mem_append_left _ w
      · have : b = a := by simpa using w
        rw [this]
        exact List.mem_append_right _ na), fun w => y.2 (by rw [e2]; exact w)⟩, fun b xs x _ => x⟩
  refine ⟨⟨?_, ?_, fun n o' b h1 h2 => ?_, fun b hb => ?_⟩, st, nr⟩
  · show (r.at_ ++ [a]).Nodup
    rw [List.nodup_append]
    refine ⟨(List.nodup_append.mp nd).1, by simp, fun x hx y hy z => ?_⟩
    have ey : y = a := by simpa using hy
    subst ey
    subst z
    exact nr hx
  · simp [Rho.push]
    omega
  · have h2 : (r.at_ ++ [a])[n]? = some b := h2
    by_cases hn : n < r.at_.length
    · rw [List.getElem?_append_left (by rw [List.length_take]; omega), List.getElem?_take_of_lt hn] at h1
      rw [List.getElem?_append_left hn] at h2
      exact (q.ob n o' b h1 (by rw [e1, List.getElem?_append_left hn]; exact h2)).keep st rfl
    · have hlt := (List.getElem?_eq_some_iff.mp h2).1
      have en : n = r.at_.length := by simp at hlt; omega
      subst en
      rw [List.getElem?_append_right (Nat.le_refl _)] at h2
      rw [List.getElem?_append_right (by rw [List.length_take]; omega)] at h1
      have e0 : r.at_.length - (h.take r.at_.length).length = 0 := by rw [List.length_take]; omega
      rw [e0] at h1
      simp at h1 h2
      subst h1
      subst h2
      exact (q.ob m o a ho ha).keep st rfl
  · obtain ⟨z1, z2⟩ := q.hd b (by rw [e2]; exact hb)
    refine ⟨z1, fun w => z2 ?_⟩
    rw [e1]
    rcases List.mem_append.mp w with w | w
    · exact List.mem_append_left _ w
    · have : b = a := by simpa using w
      rw [this]
      exact List.mem_append_right _ na
theorem start_rl {N : List Str} {vs : List V} {ds : List D} (q : RVs K r H vs ds) : RL K r H (ds.map some ++ List.replicate (N.length - ds.length) none) (L2.start N vs) := by
  have hl := q.length
  refine ⟨by simp [L2.start, hl], fun i d hd => ?_⟩
  have hlt : i < ds.length := by
    by_cases hi : i < ds.length
    · exact hi
    · rw [List.getElem?_append_right (by simpa using hi)] at hd
      rw [List.getElem?_replicate] at hd
      split at hd <;> cases hd
  rw [List.getElem?_append_left (by simpa using hlt), List.getElem?_map] at hd
  have hd' : ds[i]? = some d := by
    cases z : ds[i]? with
    | none => rw [z] at hd; cases hd
    | some e => rw [z] at hd; cases hd; rfl
  have key : ∀ {vs : List V} {ds : List D} {i : Nat} {d : D}, RVs K r H vs ds → ds[i]? = some d → ∃ v, vs[i]? = some v ∧ RV K r H v d := by
    intro vs ds i d q
    induction q generalizing i with
    | nil => intro e; simp at e
    | cons a b ih =>
      intro e
      cases i with
      | zero => simp at e; subst e; exact ⟨_, rfl, a⟩
      | succ i => simp at e; obtain ⟨v, z1, z2⟩ := ih e; exact ⟨v, by simpa using z1, z2⟩
  obtain ⟨v, h1, h2⟩ := key q hd'
  refine ⟨v, ?_, h2⟩
  show (vs.map some ++ _)[i]? = _
  rw [List.getElem?_append_left (by rw [List.length_map, hl]; exact hlt), List.getElem?_map, h1]
  rfl
/-- the body's end read as the promise -/
theorem run_read {cf : Str → List D → Hd → Res D} {gc : Str → Option PD} {keep : Bool} {body : Ss} {N : List Str} {vs : List V} {ds : List D} {Q : VK} {E : XK} (rvs : RVs K r H vs ds) (rh : RH K r H h)
    (g : match runDef cf gc keep N.length body ds h with
      | .ok d h' => ∀ v r' H', Ext r H r' H' → RH K r' H' h' → RV K r' H' v d → Q v H'
      | .exc x h' => ∀ H' cls dd, Ext r H r H' → RH K r H' h' → RX K ca r H' x cls dd → E cls dd H'
      | .bad => False) :
    tS K ca (fun cls d _ H => E cls d H) (exSs cf gc body) { nx := fun _ H' => Q .non H', rt := Q } (L2.start N vs) H := by
  refine ⟨r, _, h, start_rl rvs, rh, ?_⟩
  unfold runDef at g
  cases hx : exSs cf gc body (ds.map some ++ List.replicate (N.length - ds.length) none) h with
  | nx l1 h1 =>
    rw [hx] at g
    intro r1 H1 σ1 e1 rh1 _
    obtain ⟨t, et⟩ := e1.pre
    refine g .non r H1 e1.cut ?_ RP.non
    rw [← rh.len]
    exact rh1.cut et e1.hd
  | bk l1 h1 => rw [hx] at g; exact False.elim g
  | ct l1 h1 => rw [hx] at g; exact False.elim g
  | bad => rw [hx] at g; exact False.elim g
  | exc x l1 h1 =>
    rw [hx] at g
    intro r1 H1 σ1 cls dd e1 rh1 _ rx
    obtain ⟨t, et⟩ := e1.pre
    refine g H1 cls dd e1.cut ?_ (rx.cut (Stb.cut et e1.hd) fun a ha => ⟨fun w => ha.1 (by rw [et]; exact List.mem_append_left _ w), fun w => ha.2 (by rw [e1.hd]; exact w)⟩)
    rw [← rh.len]
    exact rh1.cut et e1.hd
  | rt d h1 =>
    rw [hx] at g
    intro r1 H1 v e1 rh1 rv
    obtain ⟨t, et⟩ := e1.pre
    have st : Stb r1 H1 r H1 := Stb.cut et e1.hd
    have cut : RH K r H1 (h1.take h.length) := by rw [← rh.len]; exact rh1.cut et e1.hd
    cases d with
    | dat d => exact g v r H1 e1.cut cut (RP.mono st _ _ rv)
    | scr ns =>
      obtain ⟨a, rfl, z⟩ := rv
      exact g (.ref a) r H1 e1.cut cut ⟨a, rfl, z.mono st⟩
    | ref m =>
      obtain ⟨a, ha, rfl⟩ := rv
      dsimp only [leave] at g
      by_cases hm : m < h.length
      · rw [if_pos hm] at g
        refine g (.ref a) r H1 e1.cut cut ⟨a, ?_, rfl⟩
        rw [et, List.getElem?_append_left (by rw [rh.len]; exact hm)] at ha
        exact ha
      · rw [if_neg hm] at g
        cases ho : h1[m]? with
        | none => rw [ho] at g; exact False.elim g
        | some o =>
          rw [ho] at g
          dsimp only at g
          obtain ⟨q1, q2, q3⟩ := rh1.cut1 et e1.hd (by rw [rh.len]; omega) ha ho
          cases keep with
          | true =>
            rw [if_pos rfl] at g
            refine g (.ref a) (r.push a) H1 ⟨⟨fun b u x y => q2.rd b u (e1.stb.rd b u x y).1 (e1.stb.rd b u x y).2, e1.stb.ex⟩, ⟨[a], rfl⟩, rfl, e1.hk⟩ ?_ ⟨a, ?_, rfl⟩
            · rw [← rh.len]; exact q1
            · rw [← rh.len]; simp [Rho.push]
          | false =>
            rw [if_neg Bool.false_ne_true] at g
            have of : Off r a := ⟨q3, fun w => (rh1.hd a (by rw [e1.hd]; exact w)).2 (List.mem_of_getElem? ha)⟩
            have ro := (rh1.ob m o a ho ha).keep st rfl
            refine g (.ref a) r H1 e1.cut cut ?_
            cases o with
            | lst ds =>
              obtain ⟨ys, z1, z2⟩ := ro
              exact RP.lst z1 of z2
            | dct ds =>
              obtain ⟨ys, z1, z2⟩ := ro
              exact RP.dct (.inl z1) of z2
end
/-- a def of the table -/
structure Row (K : Frg) (mg : Str → Option Value) (fs cs : Str → Bool) (xs : Str → Option Str) (x0 : Str → Bool) (xt : Str → List (Str × Bool) → Bool) (xf : Str → List Str → Bool) (Pd : Str → Option Def) (f : Str) (a : Addr) (fd : FuncData) (ps : List Str) : Prop where
  ex : ∃ (x qual : Str) (st : Stmt) (N : List Str) (d : Def), L2.Fun K x qual st a fd ∧ FnScope N ps (defScope st) ∧ mg f = some (.ref a) ∧ Binds K fd ps [] ∧ Pd f = some d ∧ d.size = N.length ∧ d.pars = ps.length ∧ chkSs ⟨N, fs, cs, xs, x0, xt, xf⟩ (defScope st) d.body (defBody st) = true
theorem callN_len {gc : Str → Option PD} {Pd : Str → Option Def} {f : Str} {d : Def} (e : Pd f = some d) : ∀ (n : Nat) (ds : List D) (h : Hd), ds.length ≠ d.pars → callN gc Pd n f ds h = .bad
  | 0, _, _, _ => rfl
  | n + 1, ds, h, hl => by
    unfold callN
    rw [e]
    dsimp only
    rw [if_neg hl]
section
variable {P : Program} {w : World} {K : Frg} {mg : Str → Option Value} {base : Heap} {ca : Str → Option Addr} {gc : Str → Option PD} {fs cs : Str → Bool} {xs : Str → Option Str} {x0 : Str → Bool} {xt : Str → List (Str × Bool) → Bool} {xf : Str → List Str → Bool} {Pd : Str → Option Def}
/-- the exceptions of the module -/
def XcOk (P : Program) (w : World) (K : Frg) (mg : Str → Option Value) (base : Heap) (ca : Str → Option Addr) (xs : Str → Option Str) : Prop := ∀ c f, xs c = some f → ∃ C B newId initId bm fI fd sv xv, ca c = some C ∧ caK K c = some C ∧ mg c = some (.ref C) ∧ OxC K C B newId initId bm ∧ PySem.W.findIn K (.ref C) "__init__" = some (some (.ref fI)) ∧ PySem.W.typeIn K (.ref fI) = some (.type "function") ∧
    FnOk P w K mg base (L2.CX P w) 1 fI fd [sv, xv] (spI C f) ∧ Binds K fd [sv, xv] [] ∧ XfC K C ∧ PySem.W.findIn K (.ref C) f = some none ∧ PySem.W.exmOne K (.ref C) (.ref C) = some true
def M0Ok (K : Frg) (mg : Str → Option Value) (x0 : Str → Bool) : Prop := ∀ c, x0 c = true → ∃ C B newId initId bm, ExcBaseFacts B newId initId bm ∧ PySem.W.excIn K C bm newId = true ∧ caK K c = some C ∧ mg c = some (.ref C) ∧ PySem.W.keepIn K (.ref C) = true
def ItOk' (K : Frg) (mg : Str → Option Value) (xt : Str → List (Str × Bool) → Bool) : Prop := ∀ y tab, xt y tab = true → ∃ u cv, ((mg y = some u ∧ ∃ C, u = .ref C ∧ cv = V.ref C) ∨ (mg y = none ∧ ∃ T, bootBuiltins y = some (.type T) ∧ u = .type T ∧ cv = .ty T)) ∧ ∀ c b, tab.lookup c = some b → ∃ C, caK K c = some C ∧ ExcC K C ∧ PySem.W.kitOne K (.ref C) u = some b
def FlOk (K : Frg) (xf : Str → List Str → Bool) : Prop := ∀ f l, xf f l = true → ∀ c ∈ l, ∀ C, caK K c = some C → XfC K C ∧ PySem.W.findIn K (.ref C) f = some none
theorem fn_all (tab : ∀ f, fs f = true → ∃ a fd ps, Row K mg fs cs xs x0 xt xf Pd f a fd ps) (cn : ∀ x, cs x = true → (gc x).isSome = true) (cv : ∀ x d, gc x = some d → ∃ u v, mg x = some u ∧ RelV v u ∧ ∀ r H, RP K r H v d) (bl : ∀ x ∈ bltNames, mg x = none) (xc : XcOk P w K mg base ca xs) (m0 : M0Ok K mg x0) (mi : ItOk' K mg xt) (mf : FlOk K xf) :
    ∀ (n : Nat) (f : Str) (a : Addr) (fd : FuncData) (ps : List Str), Row K mg fs cs xs x0 xt xf Pd f a fd ps → FnG P w K mg base (n + 2) a fd ps (spD K ca ps.length (callN gc Pd n f))
  | 0, f, a, fd, ps, R => ⟨fun vs H Q E ⟨r, h, ds, h1, h2, h3, h4⟩ => False.elim h4, fun _ _ _ _ _ ⟨r, h, ds, h1, h2, h3, h4⟩ => False.elim h4⟩
  | n + 1, f, a, fd, ps, ⟨x, qual, st, N, d, F, S, hm, hb, hd, hz, hp, hc⟩ => by
    refine fnG_of F S (fun vs H Q E ⟨r, h, ds, h1, h2, h3, h4⟩ => h1.length.trans h3) fun cdv A outer s H vs Q E hq hr ⟨r, h, ds, h1, h2, h3, h4⟩ => ?_
    refine ⟨tS K ca (fun cls d _ H => E cls d H) (exSs (callN gc Pd n) gc d.body), ?_, ?_⟩
    · refine sndSs (X := cxOf (L2.CX P w) P w K mg base N qual (defScope st) a cdv A outer s H E) (c := ⟨N, fs, cs, xs, x0, xt, xf⟩) (sc := defScope st) ?_ d.body (defBody st) hc
      refine { hN := rfl, nd := S.nd, hs := rfl, kd := S.kind, calm := rfl, hu := ?_, gd := hq, tk := takes_of rfl rfl rfl rfl, md := ?_, ow := passes_of rfl, stk := rfl, frm := rfl, fn := rfl }
      · have := hr.un
        show (A.deeper _).units + 65 < cLine
        omega
      · refine ⟨fun f' hf' => ?_, cn, cv, bl, fun c f h => ⟨hr.mono (by omega), xc c f h⟩, m0, mi, mf⟩
        obtain ⟨a', fd', ps', R'⟩ := tab f' hf'
        obtain ⟨x', qual', st', N', d', F', S', hm', hb', hd', hz', hp', hc'⟩ := R'.ex
        exact ⟨n + 2, ps'.length, a', fd', ps', fn_all tab cn cv bl xc m0 mi mf n f' a' fd' ps' R', hr, hm', F'.kp, hb', fun ds h hl => callN_len hd' n ds h (by rw [hp']; exact hl)⟩
    · unfold callN at h4
      rw [hd] at h4
      dsimp only at h4
      rw [if_pos (by rw [hp]; exact h3), hz] at h4
      exact run_read h1 h2 h4
end
end Mi

/-! Mi: the end of a law. -/
namespace Mi
open PySem PySem.Spec PyProof.Rows L2
/-- the law's promise -/
noncomputable def spL (gc : Str → Option PD) (Pd : Str → Option Def) (n : Nat) (K : Frg) : Sp := spD K (caK K) 1 (callN gc Pd n "law")
/-- the script enters -/
theorem spL_of {gc : Str → Option PD} {Pd : Str → Option Def} {n : Nat} {ns : List Int} (h : ∃ h', callN gc Pd n "law" [.scr ns] [] = .ok (.dat (.bool true)) h') (K : Frg) (H : Hp) (a : Addr) (hS : SqL K H a (ns.map V.int)) :
    spL gc Pd n K [.ref a] H (fun v _ => v = .bl true) fun _ _ _ => False := by
  obtain ⟨h', e⟩ := h
  refine ⟨⟨[], []⟩, [], [.scr ns], .cons ⟨a, rfl, ?_⟩ .nil, ⟨by simp, rfl, fun n o a h1 => by simp at h1, fun a ha => by cases ha⟩, rfl, ?_⟩
  · rcases hS with z | z
    · exact .inl ⟨⟨by simp, by simp⟩, z⟩
    · exact .inr z
  · rw [e]
    intro v r' H' _ _ rv
    cases rv
    rfl
/-- an own exception with one field, by the head's facts -/
def XF (K : Frg) (c f : Str) (B : String) (newId initId : String) (bm : List Value) (st : Stmt) (qual : Str) : Prop := ∃ (C fI : Addr) (oc : Value) (od : Option Addr) (kV dc pm : Value) (an : Option Addr) (cd ct : Value) (sl : Array (Option Value)),
  PySem.W.nsIn K mainGlobals c = some (some (.ref C)) ∧ (∃ nm q N bs sn sub ab col dd k0 k1 k2 k3 k5, K.lookup C = some (excClassObj nm q C N bs bm true sn sub ab col dd k0 k1 k2 k3 k5 newId)) ∧
  PySem.W.findIn K (.ref C) "__setattr__" = some (some (.builtin "object.__setattr__")) ∧ PySem.W.subIn K (.ref C) (.type "BaseException") = some true ∧ PySem.W.typeIn K (.ref C) = some (.type "type") ∧ PySem.W.keepIn K (.ref C) = true ∧
  PySem.W.findIn K (.ref C) "__init__" = some (some (.ref fI)) ∧ PySem.W.typeIn K (.ref fI) = some (.type "function") ∧
  K.lookup fI = some ⟨oc, od, .func (PySem.W.fnOf "__init__" qual (defArgs st) (defBody st) (defScope st) .none kV dc pm an cd ct), sl⟩ ∧ PySem.W.codeIn K cd qual = true ∧ PySem.W.keepIn K (.ref fI) = true ∧
  PySem.W.findIn K (.ref C) f = some none ∧ xfB K C = true ∧ PySem.W.exmOne K (.ref C) (.ref C) = some true ∧
  PySem.W.findCls K (.type B) (.type "type") "__init__" = some (.val (.builtin initId)) ∧ PySem.W.nsIn K mainGlobals (Str.ofString B) = some none
theorem xc_of {P : Program} {w : World} {K : Frg} {mg : Str → Option Value} {base h : Heap} {c f : Str} {B newId initId : String} {bm : List Value} {st : Stmt} {qual sv xv : Str} (kin : K.In h) (G : h.Ns mainGlobals mg) (fact : ∃ U, XBs B U newId initId bm) (sf : StoreFacts B bm "object.__setattr__" "object")
    (boot : bootBuiltins (Str.ofString B) = some (.type B)) (ty : typeOf (.type B) = pure (.type "type")) (stub : Manifest.isStub B = false) (hand : PySem.W.handedIn (.builtin initId) = true) (nm : Str.ofString B ≠ "__name__") (db : (Str.ofString B == ("__debug__" : Str)) = false)
    (S : FnScope [sv, xv] [sv, xv] (defScope st)) (hf : initOk B f sv xv (defBody st) = true) (hg : (defScope st).names.lookup (Str.ofString B) = some .globalImplicit) (hd1 : (sv == ("__debug__" : Str)) = false) (hd2 : (sv == ("__classdict__" : Str)) = false) (hd3 : (xv == ("__debug__" : Str)) = false) (hd4 : (xv == ("__classdict__" : Str)) = false)
    (hb : ∀ (kV dc pm : Value) (an : Option Addr) (cd ct : Value) (us : List Value), us.length = 2 → bindArgs (PySem.W.fnOf "__init__" qual (defArgs st) (defBody st) (defScope st) .none kV dc pm an cd ct) ⟨us, []⟩ = pure ([sv, xv].zip us))
    (q : XF K c f B newId initId bm st qual) :
    ∃ C B newId initId bm fI fd sv xv, caK K c = some C ∧ caK K c = some C ∧ mg c = some (.ref C) ∧ OxC K C B newId initId bm ∧ PySem.W.findIn K (.ref C) "__init__" = some (some (.ref fI)) ∧ PySem.W.typeIn K (.ref fI) = some (.type "function") ∧
    FnOk P w K mg base (L2.CX P w) 1 fI fd [sv, xv] (spI C f) ∧ Binds K fd [sv, xv] [] ∧ XfC K C ∧ PySem.W.findIn K (.ref C) f = some none ∧ PySem.W.exmOne K (.ref C) (.ref C) = some true := by
  obtain ⟨C, fI, oc, od, kV, dc, pm, an, cd, ct, sl, x1, x2, x3, x4, x5, x6, x7, x8, x9, x10, x11, x12, x13, x14, x15, x16⟩ := q
  have T : OxC K C B newId initId bm := ⟨fact, sf, x2, x3, x4, x5, x6⟩
  have F : L2.Fun K "__init__" qual st fI _ := fun_mk (st := st) x9 x10 x11
  have hca : caK K c = some C := by
    unfold caK
    rw [x1]
  refine ⟨C, B, newId, initId, bm, fI, _, sv, xv, hca, hca, PySem.W.mg_of kin G x1, T, x7, x8, ok_init F S T ⟨boot, ty, stub, x15, hand, nm, db⟩ (PySem.W.mg_none_of kin G x16) x12 hf hg hd1 hd2 hd3 hd4, Binds.all (hb kV dc pm an cd ct), xfB_ok x13, x12, x14⟩
/-- an own exception without __init__, by the head's facts -/
theorem m0_of {K : Frg} {mg : Str → Option Value} {h : Heap} {c : Str} {C : Addr} {B newId initId : String} {bm : List Value} (kin : K.In h) (G : h.Ns mainGlobals mg) (fact : ExcBaseFacts B newId initId bm) (x1 : PySem.W.nsIn K mainGlobals c = some (some (.ref C))) (x2 : PySem.W.excIn K C bm newId = true) (x3 : PySem.W.keepIn K (.ref C) = true) :
    ∃ C B newId initId bm, ExcBaseFacts B newId initId bm ∧ PySem.W.excIn K C bm newId = true ∧ caK K c = some C ∧ mg c = some (.ref C) ∧ PySem.W.keepIn K (.ref C) = true :=
  ⟨C, B, newId, initId, bm, fact, x2, by unfold caK; rw [x1], PySem.W.mg_of kin G x1, x3⟩
end Mi

/-! Mi: running the instructions on plain data: loops, comprehensions. -/
namespace Mi
open PySem
theorem call_def {gc : Str → Option PD} {Pd : Str → Option Def} {f : Str} {d : Def} {n : Nat} {ds : List D} {h : Hd} (e : Pd f = some d) (hl : ds.length = d.pars) : callN gc Pd (n + 1) f ds h = runDef (callN gc Pd n) gc d.keep d.size d.body ds h := by
  unfold callN
  rw [e]
  dsimp only
  rw [if_pos hl]
theorem bind_ok {α β : Type} (a : α) (h : Hd) (f : α → Hd → Res β) : (Res.ok a h).bind f = f a h := rfl
theorem out_ok {α : Type} (l : Loc) (a : α) (h : Hd) (f : α → Hd → Out) : (Res.ok a h).out l f = f a h := rfl
theorem nox_ok {α : Type} (a : α) (h : Hd) : (Res.ok a h).nox = .ok a h := rfl
theorem stays_none (items : List PD) (h : Hd) : Walk.stays ⟨items, none⟩ h := fun _ _ e => by cases e
/-- a comprehension that leaves the heap as it is -/
theorem lcRun_map {p : Pt} {items0 : List PD} {tst : Loc → Hd → Res Bool} {elt : Loc → Hd → Res D} {l : Loc} {h : Hd} (t : PD → Bool) (f : PD → PD) : ∀ (items acc : List PD), acc.length + items.length ≤ sizeLine →
    (∀ d ∈ items, ∃ l', bindP p d (wipeL l p.slots) = some l' ∧ tst l' h = .ok (t d) h ∧ (t d = true → elt l' h = .ok (.dat (f d)) h)) → lcRun p ⟨items0, none⟩ tst elt l items acc h = .ok (acc ++ (items.filter t).map f) h
  | [], acc, _, _ => by
    unfold lcRun
    rw [if_pos (stays_none items0 h)]
    simp
  | d :: r, acc, hz, hd => by
    obtain ⟨l', h1, h2, h3⟩ := hd d List.mem_cons_self
    unfold lcRun
    rw [if_pos (stays_none items0 h), h1]
    dsimp only
    rw [h2]
    simp only [List.length_cons] at hz
    cases ht : t d with
    | false =>
      simp only [nox_ok, bind_ok]
      rw [if_neg Bool.false_ne_true, lcRun_map t f r acc (by omega) fun e he => hd e (List.mem_cons_of_mem _ he)]
      simp [ht]
    | true =>
      simp only [nox_ok, bind_ok]
      rw [if_pos trivial, h3 ht]
      simp only [nox_ok, bind_ok]
      rw [if_pos (by omega), lcRun_map t f r (acc ++ [f d]) (by simp; omega) fun e he => hd e (List.mem_cons_of_mem _ he)]
      simp [ht]
/-- a comprehension without a test whose items change the heap -/
theorem lcRun_st {p : Pt} {items0 : List PD} {elt : Loc → Hd → Res D} {tst : Loc → Hd → Res Bool} {l : Loc} (I : List PD → Hd → Prop) (htst : ∀ l h, tst l h = .ok true h) : ∀ (items acc : List PD) (h : Hd), acc.length + items.length ≤ sizeLine → I acc h →
    (∀ d ∈ items, ∀ acc h, I acc h → ∃ l', bindP p d (wipeL l p.slots) = some l' ∧ ∃ y h', elt l' h = .ok (.dat y) h' ∧ I (acc ++ [y]) h') → ∃ acc' h', lcRun p ⟨items0, none⟩ tst elt l items acc h = .ok acc' h' ∧ I acc' h' ∧ acc'.length = acc.length + items.length
  | [], acc, h, _, hi, _ => by
    unfold lcRun
    rw [if_pos (stays_none items0 h)]
    exact ⟨acc, h, rfl, hi, rfl⟩
  | d :: r, acc, h, hz, hi, hd => by
    obtain ⟨l', h1, y, h', h2, h3⟩ := hd d List.mem_cons_self acc h hi
    simp only [List.length_cons] at hz
    obtain ⟨acc', h4, h5, h6, h7⟩ := lcRun_st I htst r (acc ++ [y]) h' (by simp; omega) h3 fun e he => hd e (List.mem_cons_of_mem _ he)
    refine ⟨acc', h4, ?_, h6, by rw [h7]; simp; omega⟩
    unfold lcRun
    rw [if_pos (stays_none items0 h), h1]
    dsimp only
    rw [htst]
    simp only [nox_ok, bind_ok]
    rw [if_pos trivial, h2]
    simp only [nox_ok, bind_ok]
    rw [if_pos (by omega), h5]
theorem ev_lcF {cf : Str → List D → Hd → Res D} {gc : Str → Option PD} {p : Pt} {it : Itr} {c : Eo} {e : E} {l : Loc} {h : Hd} {items : List PD} (t : PD → Bool) (f : PD → PD) (hI : evI cf gc it l h = .ok ⟨items, none⟩ h) (hz : items.length ≤ sizeLine)
    (hd : ∀ d ∈ items, ∃ l', bindP p d (wipeL l p.slots) = some l' ∧ evC cf gc c l' h = .ok (t d) h ∧ (t d = true → evE cf gc e l' h = .ok (.dat (f d)) h)) : evE cf gc (.lc false p it c e) l h = .ok (.dat (.list ((items.filter t).map f))) h := by
  rw [evE, hI]
  simp only [bind_ok]
  rw [lcRun_map t f items [] (by simpa using hz) hd]
  rfl
theorem ev_lcM {cf : Str → List D → Hd → Res D} {gc : Str → Option PD} {p : Pt} {it : Itr} {e : E} {l : Loc} {h : Hd} {items : List PD} (f : PD → PD) (hI : evI cf gc it l h = .ok ⟨items, none⟩ h) (hz : items.length ≤ sizeLine)
    (hd : ∀ d ∈ items, ∃ l', bindP p d (wipeL l p.slots) = some l' ∧ evE cf gc e l' h = .ok (.dat (f d)) h) : evE cf gc (.lc false p it .no e) l h = .ok (.dat (.list (items.map f))) h := by
  rw [ev_lcF (fun _ => true) f hI hz fun d hm => ?_]
  · rw [List.filter_eq_self.mpr fun _ _ => rfl]
  · obtain ⟨l', h1, h2⟩ := hd d hm
    exact ⟨l', h1, by rw [evC], fun _ => h2⟩
/-- a loop, by an invariant of what is left -/
theorem forRun_rule {p : Pt} {items0 : List PD} {b : Loc → Hd → Out} (I : List PD → Loc → Hd → Prop) (Q : Out → Prop) (h0 : ∀ l h, I [] l h → Q (.nx l h))
    (hs : ∀ d r l h, I (d :: r) l h → ∃ l1, bindP p d l = some l1 ∧ ((∃ l2 h2, b l1 h = .nx l2 h2 ∧ I r l2 h2) ∨ (∃ l2 h2, b l1 h = .ct l2 h2 ∧ I r l2 h2) ∨ (∃ l2 h2, b l1 h = .bk l2 h2 ∧ Q (.nx l2 h2)) ∨ (∃ d2 h2, b l1 h = .rt d2 h2 ∧ Q (.rt d2 h2)))) :
    ∀ (items : List PD) (l : Loc) (h : Hd), I items l h → Q (forRun p ⟨items0, none⟩ b items l h)
  | [], l, h, hi => by
    unfold forRun
    rw [if_pos (stays_none items0 h)]
    exact h0 l h hi
  | d :: r, l, h, hi => by
    obtain ⟨l1, h1, h2⟩ := hs d r l h hi
    unfold forRun
    rw [if_pos (stays_none items0 h), h1]
    dsimp only
    rcases h2 with ⟨l2, h2, e, hr⟩ | ⟨l2, h2, e, hr⟩ | ⟨l2, h2, e, hr⟩ | ⟨d2, h2, e, hr⟩
    · rw [e]; exact forRun_rule I Q h0 hs r l2 h2 hr
    · rw [e]; exact forRun_rule I Q h0 hs r l2 h2 hr
    · rw [e]; exact hr
    · rw [e]; exact hr
/-! ### comparisons -/
theorem eqv_nil {ds : List PD} : PyData.eqv (.tuple ds) (.tuple []) = ds.isEmpty := by
  cases ds <;> simp [PyData.eqv, PyData.eqvAll]
theorem eqv_nilL {ds : List PD} : PyData.eqv (.list ds) (.list []) = ds.isEmpty := by
  cases ds <;> simp [PyData.eqv, PyData.eqvAll]
theorem neP_nil (ds : List PD) : neP (.tuple ds) (.tuple []) = some (.bool (!ds.isEmpty)) := by
  unfold neP
  rw [eqv_nil]
  split
  · rfl
  · rename_i hz
    cases ds with
    | nil => exact absurd (by decide +kernel) hz
    | cons d r => rfl
theorem eqP_nil (ds : List PD) : eqP (.tuple ds) (.tuple []) = some (.bool ds.isEmpty) := by
  unfold eqP
  rw [eqv_nil]
  split
  · rfl
  · rename_i hz
    cases ds with
    | nil => exact absurd (by decide +kernel) hz
    | cons d r => rfl
theorem eqP_nilL (ds : List PD) : eqP (.list ds) (.list []) = some (.bool ds.isEmpty) := by
  unfold eqP
  rw [eqv_nilL]
  split
  · rfl
  · rename_i hz
    cases ds with
    | nil => exact absurd (by decide +kernel) hz
    | cons d r => rfl
end Mi

/-! Mi: expressions of constants alone, computed. -/
namespace Mi
open PySem
section
variable (gc : Str → Option PD)
mutual
def cvE : E → Option PD
  | .con d => some d
  | .glo x => gc x
  | .neg a => match cvE a with
    | some (.int i) => some (.int (-i))
    | _ => none
  | .bin op a b => match cvE a, cvE b with
    | some p, some q => binP op p q
    | _, _ => none
  | .tup es => match cvEs es with
    | some ps => if ps.length ≤ sizeLine then some (.tuple ps) else none
    | none => none
  | .lst false es => match cvEs es with
    | some ps => if ps.length ≤ sizeLine then some (.list ps) else none
    | none => none
  | .dnil => some (.dict [])
  | _ => none
def cvEs : Es → Option (List PD)
  | .nil => some []
  | .cons e r => match cvE e, cvEs r with
    | some p, some ps => some (p :: ps)
    | _, _ => none
end
end
theorem dats_map : ∀ ps : List PD, datsOf (ps.map .dat) = some ps
  | [] => rfl
  | p :: r => by simp [datsOf, dats_map r]
section
variable {cf : Str → List D → Hd → Res D} {gc : Str → Option PD}
mutual
theorem cv_ok : ∀ (e : E) {d : PD} (l : Loc) (h : Hd), cvE gc e = some d → evE cf gc e l h = .ok (.dat d) h
  | .con x, d, l, h, q => by
    simp only [cvE, Option.some.injEq] at q
    subst q
    rw [evE]
  | .glo x, d, l, h, q => by
    simp only [cvE] at q
    rw [evE, q]
    rfl
  | .neg a, d, l, h, q => by
    simp only [cvE] at q
    split at q
    · rename_i i ea
      cases q
      rw [evE, cv_ok a l h ea]
      rfl
    · cases q
  | .bin op a b, d, l, h, q => by
    simp only [cvE] at q
    split at q
    · rename_i x y ea eb
      rw [evE, cv_ok a l h ea, bind_ok, cv_ok b l h eb, bind_ok]
      show ofO h (binP op x y) = _
      rw [q]
      rfl
    · cases q
  | .tup es, d, l, h, q => by
    simp only [cvE] at q
    split at q
    · rename_i ps es'
      split at q
      · rename_i hz
        cases q
        rw [evE, cvs_ok es l h es', bind_ok, dats_map]
        dsimp only
        rw [if_pos hz]
      · cases q
    · cases q
  | .lst false es, d, l, h, q => by
    simp only [cvE] at q
    split at q
    · rename_i ps es'
      split at q
      · rename_i hz
        cases q
        rw [evE, cvs_ok es l h es', bind_ok, dats_map]
        dsimp only
        rw [if_pos hz]
        rfl
      · cases q
    · cases q
  | .dnil, d, l, h, q => by
    simp only [cvE, Option.some.injEq] at q
    subst q
    rw [evE]
  | .lst true _, _, _, _, q => by simp [cvE] at q
  | .var _, _, _, _, q => by simp [cvE] at q
  | .cmp _ _ _, _, _, _, q => by simp [cvE] at q
  | .cmp2 _ _ _ _ _, _, _, _, q => by simp [cvE] at q
  | .boo _ _, _, _, _, q => by simp [cvE] at q
  | .nt _, _, _, _, q => by simp [cvE] at q
  | .ife _ _ _, _, _, _, q => by simp [cvE] at q
  | .ix _ _, _, _, _, q => by simp [cvE] at q
  | .sl _ _ _ _, _, _, _, q => by simp [cvE] at q
  | .call _ _, _, _, _, q => by simp [cvE] at q
  | .blt _ _, _, _, _, q => by simp [cvE] at q
  | .lis _ _, _, _, _, q => by simp [cvE] at q
  | .isi _ _, _, _, _, q => by simp [cvE] at q
  | .mth _ _ _, _, _, _, q => by simp [cvE] at q
  | .lc _ _ _ _ _, _, _, _, q => by simp [cvE] at q
  | .p1 _ _, _, _, _, q => by simp [cvE] at q
theorem cvs_ok : ∀ (es : Es) {ps : List PD} (l : Loc) (h : Hd), cvEs gc es = some ps → evEs cf gc es l h = .ok (ps.map .dat) h
  | .nil, ps, l, h, q => by
    simp only [cvEs, Option.some.injEq] at q
    subst q
    rw [evEs]
    rfl
  | .cons e r, ps, l, h, q => by
    simp only [cvEs] at q
    split at q
    · rename_i x xs ea eb
      cases q
      rw [evEs, cv_ok e l h ea, bind_ok, cvs_ok r l h eb]
      rfl
    · cases q
end
end
end Mi

namespace K00
open PySem PySem.Spec PyProof.Rows L2 Mi
/-! the text and its instructions (printed by gen.py) -/
def topS (i : Nat) : Stmt := PySem.Challenge.pw_sharedlets_k00_errors.main.body.getD i (.Pass ⟨0, 0, 0, 0⟩)
def fsL : List Str := ["_law_with_message_right", "_law_kinds", "_law_valued_right", "law"]
def fs (x : Str) : Bool := fsL.contains x
def gcL : List (Str × PD) := []
def gc (x : Str) : Option PD := gcL.lookup x
def cs (x : Str) : Bool := (gc x).isSome
def xsL : List (Str × Str) := [("InvalidNumber", "value"), ("UnknownName", "name"), ("TooMany", "limit"), ("Chained", "chain"), ("NothingToUndo", "many")]
def xs (x : Str) : Option Str := xsL.lookup x
def t_LetError : List (Str × Bool) := [("LetError", true), ("InvalidName", true), ("InvalidTerm", true), ("InvalidGraph", true), ("InvalidFamily", true), ("InvalidAddress", true), ("InvalidOperation", true), ("InvalidEdit", true), ("ParseError", true), ("InvalidCommand", true), ("InvalidNumber", false), ("UnknownName", false), ("TooMany", false), ("Chained", false), ("NothingToUndo", false)]
def t_ValueError : List (Str × Bool) := [("LetError", true), ("InvalidName", true), ("InvalidTerm", true), ("InvalidGraph", true), ("InvalidFamily", true), ("InvalidAddress", true), ("InvalidOperation", true), ("InvalidEdit", true), ("ParseError", true), ("InvalidCommand", true)]
def t_IndexError : List (Str × Bool) := [("InvalidName", false), ("InvalidTerm", false), ("InvalidGraph", false), ("InvalidFamily", false), ("InvalidAddress", false), ("InvalidOperation", false), ("InvalidEdit", false), ("ParseError", false), ("InvalidCommand", false), ("InvalidNumber", true)]
def t_LookupError : List (Str × Bool) := [("InvalidName", false), ("InvalidTerm", false), ("InvalidGraph", false), ("InvalidFamily", false), ("InvalidAddress", false), ("InvalidOperation", false), ("InvalidEdit", false), ("ParseError", false), ("InvalidCommand", false), ("NothingToUndo", true)]
def t_KeyError : List (Str × Bool) := [("UnknownName", true)]
def t_OverflowError : List (Str × Bool) := [("TooMany", true)]
def t_RuntimeError : List (Str × Bool) := [("Chained", true)]
def t_InvalidNumber : List (Str × Bool) := [("InvalidNumber", true), ("UnknownName", false), ("NothingToUndo", false)]
def t_InvalidName : List (Str × Bool) := [("LetError", false), ("InvalidName", true), ("InvalidTerm", false), ("InvalidGraph", false), ("InvalidFamily", false), ("InvalidAddress", false), ("InvalidOperation", false), ("InvalidEdit", false), ("ParseError", false), ("InvalidCommand", false)]
def t_InvalidTerm : List (Str × Bool) := [("LetError", false), ("InvalidName", false), ("InvalidTerm", true), ("InvalidGraph", false), ("InvalidFamily", false), ("InvalidAddress", false), ("InvalidOperation", false), ("InvalidEdit", false), ("ParseError", false), ("InvalidCommand", false)]
def t_InvalidGraph : List (Str × Bool) := [("LetError", false), ("InvalidName", false), ("InvalidTerm", false), ("InvalidGraph", true), ("InvalidFamily", false), ("InvalidAddress", false), ("InvalidOperation", false), ("InvalidEdit", false), ("ParseError", false), ("InvalidCommand", false)]
def t_InvalidFamily : List (Str × Bool) := [("LetError", false), ("InvalidName", false), ("InvalidTerm", false), ("InvalidGraph", false), ("InvalidFamily", true), ("InvalidAddress", false), ("InvalidOperation", false), ("InvalidEdit", false), ("ParseError", false), ("InvalidCommand", false)]
def t_InvalidAddress : List (Str × Bool) := [("LetError", false), ("InvalidName", false), ("InvalidTerm", false), ("InvalidGraph", false), ("InvalidFamily", false), ("InvalidAddress", true), ("InvalidOperation", false), ("InvalidEdit", false), ("ParseError", false), ("InvalidCommand", false)]
def t_InvalidOperation : List (Str × Bool) := [("LetError", false), ("InvalidName", false), ("InvalidTerm", false), ("InvalidGraph", false), ("InvalidFamily", false), ("InvalidAddress", false), ("InvalidOperation", true), ("InvalidEdit", false), ("ParseError", false), ("InvalidCommand", false)]
def t_InvalidEdit : List (Str × Bool) := [("LetError", false), ("InvalidName", false), ("InvalidTerm", false), ("InvalidGraph", false), ("InvalidFamily", false), ("InvalidAddress", false), ("InvalidOperation", false), ("InvalidEdit", true), ("ParseError", false), ("InvalidCommand", false)]
def t_ParseError : List (Str × Bool) := [("LetError", false), ("InvalidName", false), ("InvalidTerm", false), ("InvalidGraph", false), ("InvalidFamily", false), ("InvalidAddress", false), ("InvalidOperation", false), ("InvalidEdit", false), ("ParseError", true), ("InvalidCommand", false)]
def t_InvalidCommand : List (Str × Bool) := [("LetError", false), ("InvalidName", false), ("InvalidTerm", false), ("InvalidGraph", false), ("InvalidFamily", false), ("InvalidAddress", false), ("InvalidOperation", false), ("InvalidEdit", false), ("ParseError", false), ("InvalidCommand", true)]
def x0L : List Str := ["LetError", "InvalidName", "InvalidTerm", "InvalidGraph", "InvalidFamily", "InvalidAddress", "InvalidOperation", "InvalidEdit", "ParseError", "InvalidCommand"]
def x0 (x : Str) : Bool := x0L.contains x
def xtL : List (Str × List (Str × Bool)) := [("LetError", t_LetError), ("ValueError", t_ValueError), ("IndexError", t_IndexError), ("LookupError", t_LookupError), ("KeyError", t_KeyError), ("OverflowError", t_OverflowError), ("RuntimeError", t_RuntimeError), ("InvalidNumber", t_InvalidNumber), ("InvalidName", t_InvalidName), ("InvalidTerm", t_InvalidTerm), ("InvalidGraph", t_InvalidGraph), ("InvalidFamily", t_InvalidFamily), ("InvalidAddress", t_InvalidAddress), ("InvalidOperation", t_InvalidOperation), ("InvalidEdit", t_InvalidEdit), ("ParseError", t_ParseError), ("InvalidCommand", t_InvalidCommand)]
def xt (y : Str) (t : List (Str × Bool)) : Bool := decide (xtL.lookup y = some t)
def xfL : List (Str × List Str) := [("value", ["InvalidNumber"]), ("name", ["UnknownName"]), ("limit", ["TooMany"]), ("chain", ["Chained"]), ("many", ["NothingToUndo"])]
def xf (f : Str) (l : List Str) : Bool := decide (xfL.lookup f = some l)
abbrev s__law_with_message_right : Stmt := topS 17
def N__law_with_message_right : List Str := ["_law_error", "_law_one"]
def y0__law_with_message_right : E :=
    (.con (.int 1))
def z0__law_with_message_right : Eo :=
    (.yes (.var 1))
def q0__law_with_message_right : E :=
    (.lc false (.nm 1) (.seq (.tup (.cons (.p1 (.isx "IndexError" t_IndexError) (.var 0)) (.cons (.p1 (.isx "LookupError" t_LookupError) (.var 0)) .nil)))) z0__law_with_message_right y0__law_with_message_right)
def b__law_with_message_right : Ss :=
    (.cons (.ifs (.boo false (.cons (.nt (.p1 (.isx "LetError" t_LetError) (.var 0))) (.cons (.nt (.p1 (.isx "ValueError" t_ValueError) (.var 0))) .nil)))
    (.cons (.ret (.con (.bool false)))
    .nil)
    .nil)
    (.cons (.ret (.cmp .Eq q0__law_with_message_right (.lst false .nil)))
    .nil))
def d__law_with_message_right : Def := ⟨2, 1, false, b__law_with_message_right⟩
abbrev s__law_kinds : Stmt := topS 18
def N__law_kinds : List Str := ["_law_error", "_law_found"]
def b__law_kinds : Ss :=
    (.cons (.asg (.nm 1) (.lst false (.cons (.p1 (.isx "InvalidName" t_InvalidName) (.var 0)) (.cons (.p1 (.isx "InvalidTerm" t_InvalidTerm) (.var 0)) (.cons (.p1 (.isx "InvalidGraph" t_InvalidGraph) (.var 0)) .nil)))))
    (.cons (.asg (.nm 1) (.bin .Add (.var 1) (.lst false (.cons (.p1 (.isx "InvalidFamily" t_InvalidFamily) (.var 0)) (.cons (.p1 (.isx "InvalidAddress" t_InvalidAddress) (.var 0)) .nil)))))
    (.cons (.asg (.nm 1) (.bin .Add (.var 1) (.lst false (.cons (.p1 (.isx "InvalidOperation" t_InvalidOperation) (.var 0)) (.cons (.p1 (.isx "InvalidEdit" t_InvalidEdit) (.var 0)) (.cons (.p1 (.isx "ParseError" t_ParseError) (.var 0)) .nil))))))
    (.cons (.ret (.bin .Add (.var 1) (.lst false (.cons (.p1 (.isx "InvalidCommand" t_InvalidCommand) (.var 0)) .nil))))
    .nil))))
def d__law_kinds : Def := ⟨2, 1, false, b__law_kinds⟩
abbrev s__law_valued_right : Stmt := topS 19
def N__law_valued_right : List Str := ["_law_thing", "_law_told", "_law_unlike", "_law_one", "_law_two", "_law_three", "_law_four", "_law_five", "_law_error"]
def y0__law_valued_right : E :=
    (.con (.int 1))
def z0__law_valued_right : Eo :=
    (.yes (.p1 (.isx "LetError" t_LetError) (.var 8)))
def q0__law_valued_right : E :=
    (.lc false (.nm 8) (.seq (.tup (.cons (.var 3) (.cons (.var 4) (.cons (.var 5) (.cons (.var 6) (.cons (.var 7) .nil))))))) z0__law_valued_right y0__law_valued_right)
def b__law_valued_right : Ss :=
    (.cons (.par [3, 4, 5] (.cons (.p1 (.mkv "InvalidNumber" "value") (.var 0)) (.cons (.p1 (.mkv "UnknownName" "name") (.var 0)) (.cons (.p1 (.mkv "TooMany" "limit") (.var 0)) .nil))))
    (.cons (.par [6, 7] (.cons (.p1 (.mkv "Chained" "chain") (.var 0)) (.cons (.p1 (.mkv "NothingToUndo" "many") (.var 0)) .nil)))
    (.cons (.ifs (.cmp .NotEq (.blt .repr (.cons (.lst false (.cons (.p1 (.fld "value" ["InvalidNumber"]) (.var 3)) (.cons (.p1 (.fld "name" ["UnknownName"]) (.var 4)) (.cons (.p1 (.fld "limit" ["TooMany"]) (.var 5)) (.cons (.p1 (.fld "chain" ["Chained"]) (.var 6)) (.cons (.p1 (.fld "many" ["NothingToUndo"]) (.var 7)) .nil)))))) .nil)) (.blt .repr (.cons (.bin .Mult (.lst false (.cons (.var 0) .nil)) (.con (.int 5))) .nil)))
    (.cons (.ret (.con (.bool false)))
    .nil)
    .nil)
    (.cons (.ifs (.cmp .NotEq q0__law_valued_right (.lst false .nil))
    (.cons (.ret (.con (.bool false)))
    .nil)
    .nil)
    (.cons (.asg (.nm 1) (.lst false (.cons (.p1 (.isx "IndexError" t_IndexError) (.var 3)) (.cons (.p1 (.isx "KeyError" t_KeyError) (.var 4)) (.cons (.p1 (.isx "OverflowError" t_OverflowError) (.var 5)) .nil)))))
    (.cons (.asg (.nm 1) (.bin .Add (.var 1) (.lst false (.cons (.p1 (.isx "RuntimeError" t_RuntimeError) (.var 6)) (.cons (.p1 (.isx "LookupError" t_LookupError) (.var 7)) .nil)))))
    (.cons (.asg (.nm 2) (.lst false (.cons (.p1 (.isx "InvalidNumber" t_InvalidNumber) (.var 3)) (.cons (.p1 (.isx "InvalidNumber" t_InvalidNumber) (.var 4)) (.cons (.p1 (.isx "InvalidNumber" t_InvalidNumber) (.var 7)) .nil)))))
    (.cons (.ret (.boo true (.cons (.cmp .Eq (.var 1) (.bin .Mult (.lst false (.cons (.con (.bool true)) .nil)) (.con (.int 5)))) (.cons (.cmp .Eq (.var 2) (.lst false (.cons (.con (.bool true)) (.cons (.con (.bool false)) (.cons (.con (.bool false)) .nil))))) .nil))))
    .nil))))))))
def d__law_valued_right : Def := ⟨9, 1, false, b__law_valued_right⟩
abbrev s_law : Stmt := topS 20
def N_law : List Str := ["_law_script", "_law_some", "_law_things", "_law_at", "_law_error", "_law_cell", "_law_thing", "_law_one"]
def y0_law : E :=
    (.var 6)
def z0_law : Eo :=
    (.yes (.nt (.call "_law_valued_right" (.cons (.var 6) .nil))))
def q0_law : E :=
    (.lc false (.nm 6) (.seq (.var 2)) z0_law y0_law)
def y3_law : E :=
    (.bin .Mod (.blt .int (.cons (.blt .abs (.cons (.var 5) .nil)) .nil)) (.bin .Pow (.con (.int 10)) (.con (.int 40))))
def q3_law : E :=
    (.lc false (.nm 5) (.seq (.sl false (.var 0) .no (.yes (.con (.int 9))))) .no y3_law)
def y5_law : E :=
    (.cmp .Eq (.var 7) (.var 3))
def q5_law : E :=
    (.lc false (.nm 7) (.rng (.cons (.con (.int 9)) .nil)) .no y5_law)
def w7_law : Ss :=
    (.cons (.ifs (.boo false (.cons (.nt (.call "_law_with_message_right" (.cons (.var 4) .nil))) (.cons (.cmp .NotEq (.call "_law_kinds" (.cons (.var 4) .nil)) q5_law) .nil)))
    (.cons (.ret (.con (.bool false)))
    .nil)
    .nil)
    .nil)
def f7_law : S :=
    (.for (.tp (.cons (.nm 3) (.cons (.nm 4) .nil))) (.enm (.var 1)) w7_law)
def b_law : Ss :=
    (.cons (.asg (.nm 1) (.lst false (.cons (.p1 (.mk0 "InvalidName") (.con (.str "a"))) (.cons (.p1 (.mk0 "InvalidTerm") (.con (.str "a"))) (.cons (.p1 (.mk0 "InvalidGraph") (.con (.str "a"))) (.cons (.p1 (.mk0 "InvalidFamily") (.con (.str "a"))) (.cons (.p1 (.mk0 "InvalidAddress") (.con (.str "a"))) .nil)))))))
    (.cons (.asg (.nm 1) (.bin .Add (.var 1) (.lst false (.cons (.p1 (.mk0 "InvalidOperation") (.con (.str "a"))) (.cons (.p1 (.mk0 "InvalidEdit") (.con (.str "a"))) (.cons (.p1 (.mk0 "ParseError") (.con (.str "a"))) (.cons (.p1 (.mk0 "InvalidCommand") (.con (.str "a"))) .nil)))))))
    (.cons f7_law
    (.cons (.ifs (.boo false (.cons (.cmp .In (.con (.bool true)) (.call "_law_kinds" (.cons (.p1 (.mk0 "LetError") (.con (.str "a"))) .nil))) (.cons (.nt (.p1 (.isx "ValueError" t_ValueError) (.p1 (.mk0 "LetError") (.con (.str "a"))))) .nil)))
    (.cons (.ret (.con (.bool false)))
    .nil)
    .nil)
    (.cons (.asg (.nm 2) (.lst false (.cons (.con .none) (.cons (.con (.int 0)) (.cons (.neg (.con (.int 1))) (.cons (.con (.bool true)) (.cons (.con (.str "")) (.cons (.con (.str "a")) (.cons (.tup .nil) (.cons (.tup (.cons (.con (.int 1)) (.cons (.tup (.cons (.con (.int 2)) .nil)) .nil))) (.cons (.lst false .nil) (.cons (.lst false (.cons (.con (.int 1)) .nil)) (.cons .dnil (.cons (.p1 (.dsp "a") (.con (.int 1))) (.cons (.bin .Pow (.con (.int 10)) (.con (.int 39))) .nil)))))))))))))))
    (.cons (.asg (.nm 2) (.bin .Add (.var 2) q3_law))
    (.cons (.ret (.cmp .Eq q0_law (.lst false .nil)))
    .nil)))))))
def d_law : Def := ⟨8, 1, false, b_law⟩
def defs : List (Str × Def) := [("_law_with_message_right", d__law_with_message_right), ("_law_kinds", d__law_kinds), ("_law_valued_right", d__law_valued_right), ("law", d_law)]
def Pd (x : Str) : Option Def := defs.lookup x
theorem sc__law_with_message_right : FnScope N__law_with_message_right ["_law_error"] (defScope s__law_with_message_right) := ⟨rfl, rfl, rfl, by decide +kernel, rfl, by decide +kernel, by decide +kernel⟩
theorem ck__law_with_message_right : chkSs ⟨N__law_with_message_right, fs, cs, xs, x0, xt, xf⟩ (defScope s__law_with_message_right) b__law_with_message_right (defBody s__law_with_message_right) = true := by decide +kernel
theorem sc__law_kinds : FnScope N__law_kinds ["_law_error"] (defScope s__law_kinds) := ⟨rfl, rfl, rfl, by decide +kernel, rfl, by decide +kernel, by decide +kernel⟩
theorem ck__law_kinds : chkSs ⟨N__law_kinds, fs, cs, xs, x0, xt, xf⟩ (defScope s__law_kinds) b__law_kinds (defBody s__law_kinds) = true := by decide +kernel
theorem sc__law_valued_right : FnScope N__law_valued_right ["_law_thing"] (defScope s__law_valued_right) := ⟨rfl, rfl, rfl, by decide +kernel, rfl, by decide +kernel, by decide +kernel⟩
theorem ck__law_valued_right : chkSs ⟨N__law_valued_right, fs, cs, xs, x0, xt, xf⟩ (defScope s__law_valued_right) b__law_valued_right (defBody s__law_valued_right) = true := by decide +kernel
theorem sc_law : FnScope N_law ["_law_script"] (defScope s_law) := ⟨rfl, rfl, rfl, by decide +kernel, rfl, by decide +kernel, by decide +kernel⟩
theorem ck_law : chkSs ⟨N_law, fs, cs, xs, x0, xt, xf⟩ (defScope s_law) b_law (defBody s_law) = true := by decide +kernel
/-! the facts that the head gives -/
def FF (K : Frg) (nm : Str) (st : Stmt) : Prop := ∃ (f : Addr) (oc : Value) (od : Option Addr) (kV dc pm : Value) (an : Option Addr) (cd ct : Value) (sl : Array (Option Value)), PySem.W.nsIn K mainGlobals nm = some (some (.ref f)) ∧ K.lookup f = some ⟨oc, od, .func (PySem.W.fnOf nm nm (defArgs st) (defBody st) (defScope st) .none kV dc pm an cd ct), sl⟩ ∧ PySem.W.codeIn K cd nm = true ∧ PySem.W.keepIn K (.ref f) = true
theorem row_of {K : Frg} {h : Heap} {mg : Str → Option Value} {nm : Str} {st : Stmt} {N ps : List Str} {d : Def} (kin : K.In h) (G : h.Ns mainGlobals mg) (f : FF K nm st) (sc : FnScope N ps (defScope st)) (hd : Pd nm = some d) (hz : d.size = N.length) (hp : d.pars = ps.length) (ck : chkSs ⟨N, fs, cs, xs, x0, xt, xf⟩ (defScope st) d.body (defBody st) = true)
    (hb : ∀ (kV dc pm : Value) (an : Option Addr) (cd ct : Value) (us : List Value), us.length = ps.length → bindArgs (PySem.W.fnOf nm nm (defArgs st) (defBody st) (defScope st) .none kV dc pm an cd ct) ⟨us, []⟩ = pure (ps.zip us)) :
    ∃ a fd, Row K mg fs cs xs x0 xt xf Pd nm a fd ps := by
  obtain ⟨a, oc, od, kV, dc, pm, an, cd, ct, sl, h1, h2, h3, h4⟩ := f
  exact ⟨a, _, nm, nm, st, N, d, fun_mk (st := st) h2 h3 h4, sc, PySem.W.mg_of kin G h1, Binds.all (hb kV dc pm an cd ct), hd, hz, hp, ck⟩
structure Facts (K : Frg) : Prop where
  f__law_with_message_right : FF K "_law_with_message_right" s__law_with_message_right
  f__law_kinds : FF K "_law_kinds" s__law_kinds
  f__law_valued_right : FF K "_law_valued_right" s__law_valued_right
  f_law : FF K "law" s_law
theorem tab {K : Frg} {h : Heap} {mg : Str → Option Value} (kin : K.In h) (G : h.Ns mainGlobals mg) (T : Facts K) : ∀ f, fs f = true → ∃ a fd ps, Row K mg fs cs xs x0 xt xf Pd f a fd ps := by
  intro f hf
  have hm : f ∈ fsL := by simpa [fs] using hf
  rcases List.mem_cons.mp hm with rfl | hm
  · obtain ⟨a, fd, r⟩ := row_of kin G T.f__law_with_message_right sc__law_with_message_right rfl rfl rfl ck__law_with_message_right fun _ _ _ _ _ _ us hl => match us, hl with | [_], _ => rfl
    exact ⟨a, fd, _, r⟩
  rcases List.mem_cons.mp hm with rfl | hm
  · obtain ⟨a, fd, r⟩ := row_of kin G T.f__law_kinds sc__law_kinds rfl rfl rfl ck__law_kinds fun _ _ _ _ _ _ us hl => match us, hl with | [_], _ => rfl
    exact ⟨a, fd, _, r⟩
  rcases List.mem_cons.mp hm with rfl | hm
  · obtain ⟨a, fd, r⟩ := row_of kin G T.f__law_valued_right sc__law_valued_right rfl rfl rfl ck__law_valued_right fun _ _ _ _ _ _ us hl => match us, hl with | [_], _ => rfl
    exact ⟨a, fd, _, r⟩
  rcases List.mem_cons.mp hm with rfl | hm
  · obtain ⟨a, fd, r⟩ := row_of kin G T.f_law sc_law rfl rfl rfl ck_law fun _ _ _ _ _ _ us hl => match us, hl with | [_], _ => rfl
    exact ⟨a, fd, _, r⟩
  cases hm
end K00

namespace K00
open PySem PySem.Spec PyProof.Rows L2 Mi
theorem P_msg : Pd "_law_with_message_right" = some d__law_with_message_right := by rfl
theorem P_kinds : Pd "_law_kinds" = some d__law_kinds := by rfl
theorem P_val : Pd "_law_valued_right" = some d__law_valued_right := by rfl
theorem P_law : Pd "law" = some d_law := by rfl
/-- an exception with a message; one with a value -/
def xm (c : Str) : PD := .dict [(.none, .str c)]
def xv (c f : Str) (d : PD) : PD := .dict [(.none, .tuple [.str c, .str f, d])]
theorem xm_cls (c : Str) : xcls (xm c) = some c := rfl
theorem xv_cls (c f : Str) (d : PD) : xcls (xv c f d) = some c := rfl
theorem sz (n : Nat) (h : n ≤ 100) : n ≤ sizeLine := by rw [sizeLine_eq]; omega
section
variable {cf : Str → List D → Hd → Res D} {l : Mi.Loc} {h : Hd}
theorem e_isx {y : Str} {tab : List (Str × Bool)} {a : E} {d : PD} {c : Str} {b : Bool} (ha : evE cf gc a l h = .ok (.dat d) h) (hx : xcls d = some c) (ht : tab.lookup c = some b) : evE cf gc (.p1 (.isx y tab) a) l h = .ok (.dat (.bool b)) h := by
  rw [evE, ha, bind_ok]
  simp only [P1.fn, hx, Option.bind_some, ht, Option.map_some, ofO]
theorem e_var {i : Nat} {d : D} (hl : l[i]? = some (some d)) : evE cf gc (.var i) l h = .ok d h := by
  simp only [evE, hl]
theorem e_mk0 {c : Str} {k : PD} : evE cf gc (.p1 (.mk0 c) (.con k)) l h = .ok (.dat (xm c)) h := by
  rw [evE, evE, bind_ok]
  rfl
theorem e_mkv {c f : Str} {a : E} {d : PD} (ha : evE cf gc a l h = .ok (.dat d) h) : evE cf gc (.p1 (.mkv c f) a) l h = .ok (.dat (xv c f d)) h := by
  rw [evE, ha, bind_ok]
  rfl
theorem e_fld {c f : Str} {a : E} {d : PD} {l0 : List Str} (ha : evE cf gc a l h = .ok (.dat (xv c f d)) h) (hc : c ∈ l0) : evE cf gc (.p1 (.fld f l0) a) l h = .ok (.dat d) h := by
  rw [evE, ha, bind_ok]
  show ofO h (if f = f ∧ c ∈ l0 then some d else none) = _
  rw [if_pos ⟨rfl, hc⟩]
  rfl
theorem e_dsp {k : Str} {d : PD} : evE cf gc (.p1 (.dsp k) (.con d)) l h = .ok (.dat (.dict [(.str k, d)])) h := by
  rw [evE, evE, bind_ok]
  rfl
end
theorem add_lists {xs ys : List PD} (h : xs.length + ys.length ≤ 1000) : addP (.list xs) (.list ys) = some (.list (xs ++ ys)) := by
  unfold addP
  dsimp only
  rw [if_pos (by rw [sizeLine_eq]; omega)]
theorem c_msg (n : Nat) (h : Hd) {c : Str} (h1 : t_LetError.lookup c = some true) (h2 : t_ValueError.lookup c = some true) (h3 : t_IndexError.lookup c = some false) (h4 : t_LookupError.lookup c = some false) :
    callN gc Pd (n + 1) "_law_with_message_right" [.dat (xm c)] h = .ok (.dat (.bool true)) h := by
  rw [call_def P_msg rfl]
  simp only [runDef, d__law_with_message_right, b__law_with_message_right]
  have hv : ∀ x h, evE (callN gc Pd n) gc (.var 0) [some (D.dat (xm c)), x] h = .ok (.dat (xm c)) h := fun x h => e_var rfl
  have i1 := e_isx (y := "LetError") (hv none h) (xm_cls c) h1
  have i2 := e_isx (y := "ValueError") (hv none h) (xm_cls c) h2
  have i3 := e_isx (y := "IndexError") (hv none h) (xm_cls c) h3
  have i4 := e_isx (y := "LookupError") (hv none h) (xm_cls c) h4
  have lc : evE (callN gc Pd n) gc q0__law_with_message_right [some (D.dat (xm c)), none] h = .ok (.dat (.list [])) h := by
    have tp : evE (callN gc Pd n) gc (.tup (.cons (.p1 (.isx "IndexError" t_IndexError) (.var 0)) (.cons (.p1 (.isx "LookupError" t_LookupError) (.var 0)) .nil))) [some (D.dat (xm c)), none] h = .ok (.dat (.tuple [.bool false, .bool false])) h := by
      rw [evE]
      simp only [evEs, i3, i4, Res.bind, datsOf, Option.map, List.length_cons, List.length_nil, Nat.zero_add, sz _ (show 1 + 1 ≤ 100 by omega), if_true]
    have eI : evI (callN gc Pd n) gc (.seq (.tup (.cons (.p1 (.isx "IndexError" t_IndexError) (.var 0)) (.cons (.p1 (.isx "LookupError" t_LookupError) (.var 0)) .nil)))) [some (D.dat (xm c)), none] h = .ok ⟨[.bool false, .bool false], none⟩ h := by
      rw [evI, tp, bind_ok]
      simp only [seqOf]
    have z := ev_lcF (cf := callN gc Pd n) (gc := gc) (p := .nm 1) (c := z0__law_with_message_right) (e := y0__law_with_message_right) (fun _ => false) id eI (sz _ (by simp)) fun d hd => ⟨_, rfl, by
      have : d = .bool false := by simpa using hd
      subst this
      simp [z0__law_with_message_right, evC, evE, Res.bind, wipeL, Pt.slots, truD, rd, truP], fun z => by cases z⟩
    exact z
  simp only [List.map_cons, List.map_nil, List.length_cons, List.length_nil, Nat.zero_add, Nat.reduceSub, List.replicate, List.cons_append, List.nil_append]
  have b1 : evE (callN gc Pd n) gc (.nt (.p1 (.isx "LetError" t_LetError) (.var 0))) [some (D.dat (xm c)), none] h = .ok (.dat (.bool false)) h := by rw [evE, i1]; rfl
  have b2 : evE (callN gc Pd n) gc (.nt (.p1 (.isx "ValueError" t_ValueError) (.var 0))) [some (D.dat (xm c)), none] h = .ok (.dat (.bool false)) h := by rw [evE, i2]; rfl
  have lc2 : evE (callN gc Pd n) gc (.cmp .Eq q0__law_with_message_right (.lst false .nil)) [some (D.dat (xm c)), none] h = .ok (.dat (.bool true)) h := by
    rw [evE, lc]
    simp [evE, evEs, Res.bind, datsOf, mkL, rd, cmpP, eqP_nilL, ofO]
  have t1 : evT (callN gc Pd n) gc (.boo false (.cons (.nt (.p1 (.isx "LetError" t_LetError) (.var 0))) (.cons (.nt (.p1 (.isx "ValueError" t_ValueError) (.var 0))) .nil))) [some (D.dat (xm c)), none] h = .ok false h := by
    rw [evT, evE, evB, b1, bind_ok]
    simp only [truD, rd, truP, Option.bind, Res.bind, if_true, evB, b2]
  simp only [exSs, exS, t1, Res.out, Bool.false_eq_true, if_false, lc2, leave, List.take_length]
theorem c_kinds (n : Nat) (h : Hd) {c : Str} {b1 b2 b3 b4 b5 b6 b7 b8 b9 : Bool} (h1 : t_InvalidName.lookup c = some b1) (h2 : t_InvalidTerm.lookup c = some b2) (h3 : t_InvalidGraph.lookup c = some b3) (h4 : t_InvalidFamily.lookup c = some b4) (h5 : t_InvalidAddress.lookup c = some b5)
    (h6 : t_InvalidOperation.lookup c = some b6) (h7 : t_InvalidEdit.lookup c = some b7) (h8 : t_ParseError.lookup c = some b8) (h9 : t_InvalidCommand.lookup c = some b9) :
    callN gc Pd (n + 1) "_law_kinds" [.dat (xm c)] h = .ok (.dat (.list [.bool b1, .bool b2, .bool b3, .bool b4, .bool b5, .bool b6, .bool b7, .bool b8, .bool b9])) h := by
  rw [call_def P_kinds rfl]
  simp only [runDef, d__law_kinds, b__law_kinds]
  have hv : ∀ x h, evE (callN gc Pd n) gc (.var 0) [some (D.dat (xm c)), x] h = .ok (.dat (xm c)) h := fun x h => e_var rfl
  have i1 := fun x h => e_isx (y := "InvalidName") (hv x h) (xm_cls c) h1
  have i2 := fun x h => e_isx (y := "InvalidTerm") (hv x h) (xm_cls c) h2
  have i3 := fun x h => e_isx (y := "InvalidGraph") (hv x h) (xm_cls c) h3
  have i4 := fun x h => e_isx (y := "InvalidFamily") (hv x h) (xm_cls c) h4
  have i5 := fun x h => e_isx (y := "InvalidAddress") (hv x h) (xm_cls c) h5
  have i6 := fun x h => e_isx (y := "InvalidOperation") (hv x h) (xm_cls c) h6
  have i7 := fun x h => e_isx (y := "InvalidEdit") (hv x h) (xm_cls c) h7
  have i8 := fun x h => e_isx (y := "ParseError") (hv x h) (xm_cls c) h8
  have i9 := fun x h => e_isx (y := "InvalidCommand") (hv x h) (xm_cls c) h9
  have a1 := add_lists (xs := [.bool b1, .bool b2, .bool b3]) (ys := [.bool b4, .bool b5]) (by simp)
  have a2 := add_lists (xs := [.bool b1, .bool b2, .bool b3, .bool b4, .bool b5]) (ys := [.bool b6, .bool b7, .bool b8]) (by simp)
  have a3 := add_lists (xs := [.bool b1, .bool b2, .bool b3, .bool b4, .bool b5, .bool b6, .bool b7, .bool b8]) (ys := [.bool b9]) (by simp)
  simp only [List.cons_append, List.nil_append] at a1 a2 a3
  have L1 : ∀ x h, evE (callN gc Pd n) gc (.lst false (.cons (.p1 (.isx "InvalidName" t_InvalidName) (.var 0)) (.cons (.p1 (.isx "InvalidTerm" t_InvalidTerm) (.var 0)) (.cons (.p1 (.isx "InvalidGraph" t_InvalidGraph) (.var 0)) .nil)))) [some (D.dat (xm c)), x] h = .ok (.dat (.list [.bool b1, .bool b2, .bool b3])) h := by
    intro x h
    rw [evE]
    simp only [evEs, i1, i2, i3, Res.bind, datsOf, Option.map, List.length_cons, List.length_nil, Nat.zero_add, sz _ (show 1 + 1 + 1 ≤ 100 by omega), if_true, mkL, Bool.false_eq_true, if_false]
  have L2 : ∀ x h, evE (callN gc Pd n) gc (.lst false (.cons (.p1 (.isx "InvalidFamily" t_InvalidFamily) (.var 0)) (.cons (.p1 (.isx "InvalidAddress" t_InvalidAddress) (.var 0)) .nil))) [some (D.dat (xm c)), x] h = .ok (.dat (.list [.bool b4, .bool b5])) h := by
    intro x h
    rw [evE]
    simp only [evEs, i4, i5, Res.bind, datsOf, Option.map, List.length_cons, List.length_nil, Nat.zero_add, sz _ (show 1 + 1 ≤ 100 by omega), if_true, mkL, Bool.false_eq_true, if_false]
  have L3 : ∀ x h, evE (callN gc Pd n) gc (.lst false (.cons (.p1 (.isx "InvalidOperation" t_InvalidOperation) (.var 0)) (.cons (.p1 (.isx "InvalidEdit" t_InvalidEdit) (.var 0)) (.cons (.p1 (.isx "ParseError" t_ParseError) (.var 0)) .nil)))) [some (D.dat (xm c)), x] h = .ok (.dat (.list [.bool b6, .bool b7, .bool b8])) h := by
    intro x h
    rw [evE]
    simp only [evEs, i6, i7, i8, Res.bind, datsOf, Option.map, List.length_cons, List.length_nil, Nat.zero_add, sz _ (show 1 + 1 + 1 ≤ 100 by omega), if_true, mkL, Bool.false_eq_true, if_false]
  have L4 : ∀ x h, evE (callN gc Pd n) gc (.lst false (.cons (.p1 (.isx "InvalidCommand" t_InvalidCommand) (.var 0)) .nil)) [some (D.dat (xm c)), x] h = .ok (.dat (.list [.bool b9])) h := by
    intro x h
    rw [evE]
    simp only [evEs, i9, Res.bind, datsOf, Option.map, List.length_cons, List.length_nil, Nat.zero_add, sz _ (show 1 ≤ 100 by omega), if_true, mkL, Bool.false_eq_true, if_false]
  have B2 : ∀ h, evE (callN gc Pd n) gc (.bin .Add (.var 1) (.lst false (.cons (.p1 (.isx "InvalidFamily" t_InvalidFamily) (.var 0)) (.cons (.p1 (.isx "InvalidAddress" t_InvalidAddress) (.var 0)) .nil)))) [some (D.dat (xm c)), some (.dat (.list [.bool b1, .bool b2, .bool b3]))] h = .ok (.dat (.list [.bool b1, .bool b2, .bool b3, .bool b4, .bool b5])) h := by
    intro h
    rw [evE, e_var (d := .dat (.list [.bool b1, .bool b2, .bool b3])) rfl, bind_ok, L2, bind_ok]
    simp only [rdx, binP, a1, ofO]
  have B3 : ∀ h, evE (callN gc Pd n) gc (.bin .Add (.var 1) (.lst false (.cons (.p1 (.isx "InvalidOperation" t_InvalidOperation) (.var 0)) (.cons (.p1 (.isx "InvalidEdit" t_InvalidEdit) (.var 0)) (.cons (.p1 (.isx "ParseError" t_ParseError) (.var 0)) .nil))))) [some (D.dat (xm c)), some (.dat (.list [.bool b1, .bool b2, .bool b3, .bool b4, .bool b5]))] h = .ok (.dat (.list [.bool b1, .bool b2, .bool b3, .bool b4, .bool b5, .bool b6, .bool b7, .bool b8])) h := by
    intro h
    rw [evE, e_var (d := .dat (.list [.bool b1, .bool b2, .bool b3, .bool b4, .bool b5])) rfl, bind_ok, L3, bind_ok]
    simp only [rdx, binP, a2, ofO]
  have B4 : ∀ h, evE (callN gc Pd n) gc (.bin .Add (.var 1) (.lst false (.cons (.p1 (.isx "InvalidCommand" t_InvalidCommand) (.var 0)) .nil))) [some (D.dat (xm c)), some (.dat (.list [.bool b1, .bool b2, .bool b3, .bool b4, .bool b5, .bool b6, .bool b7, .bool b8]))] h = .ok (.dat (.list [.bool b1, .bool b2, .bool b3, .bool b4, .bool b5, .bool b6, .bool b7, .bool b8, .bool b9])) h := by
    intro h
    rw [evE, e_var (d := .dat (.list [.bool b1, .bool b2, .bool b3, .bool b4, .bool b5, .bool b6, .bool b7, .bool b8])) rfl, bind_ok, L4, bind_ok]
    simp only [rdx, binP, a3, ofO]
  simp only [exSs, exS, L1, Res.out, List.map_cons, List.map_nil, List.length_cons, List.length_nil, Nat.zero_add, Nat.reduceSub, List.replicate, List.cons_append, List.nil_append, List.set_cons_succ, List.set_cons_zero, B2, B3, B4, leave, List.take_length]
end K00

namespace K00
open PySem PySem.Spec PyProof.Rows L2 Mi
theorem ne_str (s : Str) : neP (.str s) (.str s) = some (.bool false) := by
  simp [neP, eqOk, scalP, plainV, scal, PyData.eqv]
theorem neP_nilL (ds : List PD) : neP (.list ds) (.list []) = some (.bool (!ds.isEmpty)) := by
  unfold neP
  rw [eqv_nilL]
  split
  · rfl
  · rename_i hz
    cases ds with
    | nil => exact absurd (by decide +kernel) hz
    | cons d r => rfl
/-- the state in _law_valued_right -/
abbrev vl (d : PD) (a b c : Option D) : Mi.Loc := [some (.dat d), a, b, some (.dat (xv "InvalidNumber" "value" d)), some (.dat (xv "UnknownName" "name" d)), some (.dat (xv "TooMany" "limit" d)), some (.dat (xv "Chained" "chain" d)), some (.dat (xv "NothingToUndo" "many" d)), c]
theorem mul5 (d : PD) : mulP (.list [d]) (.int 5) = some (.list [d, d, d, d, d]) := by
  unfold mulP
  dsimp only
  rw [if_pos ⟨by omega, by omega, by rw [sizeLine_eq]; simp⟩]
  rfl
section
variable {cf : Str → List D → Hd → Res D} {h : Hd} (d : PD) (a b c : Option D)
theorem v_repr1 {s : Str} (hr : reprP [.list [d, d, d, d, d]] = some (.str s)) : evE cf gc (.blt .repr (.cons (.lst false (.cons (.p1 (.fld "value" ["InvalidNumber"]) (.var 3)) (.cons (.p1 (.fld "name" ["UnknownName"]) (.var 4)) (.cons (.p1 (.fld "limit" ["TooMany"]) (.var 5)) (.cons (.p1 (.fld "chain" ["Chained"]) (.var 6)) (.cons (.p1 (.fld "many" ["NothingToUndo"]) (.var 7)) .nil)))))) .nil)) (vl d a b c) h = .ok (.dat (.str s)) h := by
  have f1 : evE cf gc (.p1 (.fld "value" ["InvalidNumber"]) (.var 3)) (vl d a b c) h = .ok (.dat d) h := e_fld (c := "InvalidNumber") (e_var rfl) (by simp)
  have f2 : evE cf gc (.p1 (.fld "name" ["UnknownName"]) (.var 4)) (vl d a b c) h = .ok (.dat d) h := e_fld (c := "UnknownName") (e_var rfl) (by simp)
  have f3 : evE cf gc (.p1 (.fld "limit" ["TooMany"]) (.var 5)) (vl d a b c) h = .ok (.dat d) h := e_fld (c := "TooMany") (e_var rfl) (by simp)
  have f4 : evE cf gc (.p1 (.fld "chain" ["Chained"]) (.var 6)) (vl d a b c) h = .ok (.dat d) h := e_fld (c := "Chained") (e_var rfl) (by simp)
  have f5 : evE cf gc (.p1 (.fld "many" ["NothingToUndo"]) (.var 7)) (vl d a b c) h = .ok (.dat d) h := e_fld (c := "NothingToUndo") (e_var rfl) (by simp)
  have L : evE cf gc (.lst false (.cons (.p1 (.fld "value" ["InvalidNumber"]) (.var 3)) (.cons (.p1 (.fld "name" ["UnknownName"]) (.var 4)) (.cons (.p1 (.fld "limit" ["TooMany"]) (.var 5)) (.cons (.p1 (.fld "chain" ["Chained"]) (.var 6)) (.cons (.p1 (.fld "many" ["NothingToUndo"]) (.var 7)) .nil)))))) (vl d a b c) h = .ok (.dat (.list [d, d, d, d, d])) h := by
    rw [evE]
    simp only [evEs, f1, f2, f3, f4, f5, Res.bind, datsOf, Option.map, List.length_cons, List.length_nil, Nat.zero_add, sz _ (show 1 + 1 + 1 + 1 + 1 ≤ 100 by omega), if_true, mkL, Bool.false_eq_true, if_false]
  rw [evE, evEs, L, bind_ok]
  simp only [evEs, Res.bind, rdsOf, rd, Bl.fn, hr, ofO]
theorem v_repr2 {s : Str} (hr : reprP [.list [d, d, d, d, d]] = some (.str s)) : evE cf gc (.blt .repr (.cons (.bin .Mult (.lst false (.cons (.var 0) .nil)) (.con (.int 5))) .nil)) (vl d a b c) h = .ok (.dat (.str s)) h := by
  have L : evE cf gc (.bin .Mult (.lst false (.cons (.var 0) .nil)) (.con (.int 5))) (vl d a b c) h = .ok (.dat (.list [d, d, d, d, d])) h := by
    simp only [evE, evEs, Res.bind, List.getElem?_cons_zero, datsOf, Option.map, List.length_cons, List.length_nil, Nat.zero_add, sz _ (show 1 ≤ 100 by omega), if_true, mkL, Bool.false_eq_true, if_false, rdx, binP, mul5, ofO]
  rw [evE, evEs, L, bind_ok]
  simp only [evEs, Res.bind, rdsOf, rd, Bl.fn, hr, ofO]
theorem v_none : evE cf gc q0__law_valued_right (vl d a b c) h = .ok (.dat (.list [])) h := by
  have tp : evE cf gc (.tup (.cons (.var 3) (.cons (.var 4) (.cons (.var 5) (.cons (.var 6) (.cons (.var 7) .nil)))))) (vl d a b c) h = .ok (.dat (.tuple [xv "InvalidNumber" "value" d, xv "UnknownName" "name" d, xv "TooMany" "limit" d, xv "Chained" "chain" d, xv "NothingToUndo" "many" d])) h := by
    rw [evE]
    simp only [evEs, evE, List.getElem?_cons_succ, List.getElem?_cons_zero, Res.bind, datsOf, Option.map, List.length_cons, List.length_nil, Nat.zero_add, sz _ (show 1 + 1 + 1 + 1 + 1 ≤ 100 by omega), if_true]
  have eI : evI cf gc (.seq (.tup (.cons (.var 3) (.cons (.var 4) (.cons (.var 5) (.cons (.var 6) (.cons (.var 7) .nil))))))) (vl d a b c) h = .ok ⟨[xv "InvalidNumber" "value" d, xv "UnknownName" "name" d, xv "TooMany" "limit" d, xv "Chained" "chain" d, xv "NothingToUndo" "many" d], none⟩ h := by
    rw [evI, tp, bind_ok]
    simp only [seqOf]
  have z := ev_lcF (cf := cf) (gc := gc) (p := .nm 8) (c := z0__law_valued_right) (e := y0__law_valued_right) (fun _ => false) id eI (sz _ (by simp)) fun e he => ⟨_, rfl, by
    have key : ∃ k, xcls e = some k ∧ t_LetError.lookup k = some false := by
      simp only [List.mem_cons, List.not_mem_nil, or_false] at he
      rcases he with rfl | rfl | rfl | rfl | rfl
      · exact ⟨_, xv_cls _ _ _, by decide +kernel⟩
      · exact ⟨_, xv_cls _ _ _, by decide +kernel⟩
      · exact ⟨_, xv_cls _ _ _, by decide +kernel⟩
      · exact ⟨_, xv_cls _ _ _, by decide +kernel⟩
      · exact ⟨_, xv_cls _ _ _, by decide +kernel⟩
    obtain ⟨k, k1, k2⟩ := key
    rw [z0__law_valued_right, evC, e_isx (d := e) (e_var rfl) k1 k2, bind_ok]
    rfl, fun z => by cases z⟩
  exact z
theorem v_told1 : evE cf gc (.lst false (.cons (.p1 (.isx "IndexError" t_IndexError) (.var 3)) (.cons (.p1 (.isx "KeyError" t_KeyError) (.var 4)) (.cons (.p1 (.isx "OverflowError" t_OverflowError) (.var 5)) .nil)))) (vl d a b c) h = .ok (.dat (.list [.bool true, .bool true, .bool true])) h := by
  have f1 : evE cf gc (.p1 (.isx "IndexError" t_IndexError) (.var 3)) (vl d a b c) h = .ok (.dat (.bool true)) h := e_isx (e_var rfl) (xv_cls "InvalidNumber" "value" d) (by decide +kernel)
  have f2 : evE cf gc (.p1 (.isx "KeyError" t_KeyError) (.var 4)) (vl d a b c) h = .ok (.dat (.bool true)) h := e_isx (e_var rfl) (xv_cls "UnknownName" "name" d) (by decide +kernel)
  have f3 : evE cf gc (.p1 (.isx "OverflowError" t_OverflowError) (.var 5)) (vl d a b c) h = .ok (.dat (.bool true)) h := e_isx (e_var rfl) (xv_cls "TooMany" "limit" d) (by decide +kernel)
  rw [evE]
  simp only [evEs, f1, f2, f3, Res.bind, datsOf, Option.map, List.length_cons, List.length_nil, Nat.zero_add, sz _ (show 1 + 1 + 1 ≤ 100 by omega), if_true, mkL, Bool.false_eq_true, if_false]
theorem v_told2 : evE cf gc (.bin .Add (.var 1) (.lst false (.cons (.p1 (.isx "RuntimeError" t_RuntimeError) (.var 6)) (.cons (.p1 (.isx "LookupError" t_LookupError) (.var 7)) .nil)))) (vl d (some (.dat (.list [.bool true, .bool true, .bool true]))) b c) h = .ok (.dat (.list [.bool true, .bool true, .bool true, .bool true, .bool true])) h := by
  have f1 : evE cf gc (.p1 (.isx "RuntimeError" t_RuntimeError) (.var 6)) (vl d (some (.dat (.list [.bool true, .bool true, .bool true]))) b c) h = .ok (.dat (.bool true)) h := e_isx (e_var rfl) (xv_cls "Chained" "chain" d) (by decide +kernel)
  have f2 : evE cf gc (.p1 (.isx "LookupError" t_LookupError) (.var 7)) (vl d (some (.dat (.list [.bool true, .bool true, .bool true]))) b c) h = .ok (.dat (.bool true)) h := e_isx (e_var rfl) (xv_cls "NothingToUndo" "many" d) (by decide +kernel)
  have L : evE cf gc (.lst false (.cons (.p1 (.isx "RuntimeError" t_RuntimeError) (.var 6)) (.cons (.p1 (.isx "LookupError" t_LookupError) (.var 7)) .nil))) (vl d (some (.dat (.list [.bool true, .bool true, .bool true]))) b c) h = .ok (.dat (.list [.bool true, .bool true])) h := by
    rw [evE]
    simp only [evEs, f1, f2, Res.bind, datsOf, Option.map, List.length_cons, List.length_nil, Nat.zero_add, sz _ (show 1 + 1 ≤ 100 by omega), if_true, mkL, Bool.false_eq_true, if_false]
  rw [evE, e_var (d := .dat (.list [.bool true, .bool true, .bool true])) rfl, bind_ok, L, bind_ok]
  have ad := add_lists (xs := [.bool true, .bool true, .bool true]) (ys := [.bool true, .bool true]) (by simp)
  simp only [rdx, binP, ad, ofO, List.cons_append, List.nil_append]
theorem v_unl : evE cf gc (.lst false (.cons (.p1 (.isx "InvalidNumber" t_InvalidNumber) (.var 3)) (.cons (.p1 (.isx "InvalidNumber" t_InvalidNumber) (.var 4)) (.cons (.p1 (.isx "InvalidNumber" t_InvalidNumber) (.var 7)) .nil)))) (vl d a b c) h = .ok (.dat (.list [.bool true, .bool false, .bool false])) h := by
  have f1 : evE cf gc (.p1 (.isx "InvalidNumber" t_InvalidNumber) (.var 3)) (vl d a b c) h = .ok (.dat (.bool true)) h := e_isx (e_var rfl) (xv_cls "InvalidNumber" "value" d) (by decide +kernel)
  have f2 : evE cf gc (.p1 (.isx "InvalidNumber" t_InvalidNumber) (.var 4)) (vl d a b c) h = .ok (.dat (.bool false)) h := e_isx (e_var rfl) (xv_cls "UnknownName" "name" d) (by decide +kernel)
  have f3 : evE cf gc (.p1 (.isx "InvalidNumber" t_InvalidNumber) (.var 7)) (vl d a b c) h = .ok (.dat (.bool false)) h := e_isx (e_var rfl) (xv_cls "NothingToUndo" "many" d) (by decide +kernel)
  rw [evE]
  simp only [evEs, f1, f2, f3, Res.bind, datsOf, Option.map, List.length_cons, List.length_nil, Nat.zero_add, sz _ (show 1 + 1 + 1 ≤ 100 by omega), if_true, mkL, Bool.false_eq_true, if_false]
theorem v_end : evE cf gc (.boo true (.cons (.cmp .Eq (.var 1) (.bin .Mult (.lst false (.cons (.con (.bool true)) .nil)) (.con (.int 5)))) (.cons (.cmp .Eq (.var 2) (.lst false (.cons (.con (.bool true)) (.cons (.con (.bool false)) (.cons (.con (.bool false)) .nil))))) .nil))) (vl d (some (.dat (.list [.bool true, .bool true, .bool true, .bool true, .bool true]))) (some (.dat (.list [.bool true, .bool false, .bool false]))) c) h = .ok (.dat (.bool true)) h := by
  have q1 : eqP (.list [.bool true, .bool true, .bool true, .bool true, .bool true]) (.list [.bool true, .bool true, .bool true, .bool true, .bool true]) = some (.bool true) := by rfl
  have q2 : eqP (.list [.bool true, .bool false, .bool false]) (.list [.bool true, .bool false, .bool false]) = some (.bool true) := by rfl
  simp only [evE, evB, evEs, Res.bind, List.getElem?_cons_succ, List.getElem?_cons_zero, datsOf, Option.map, List.length_cons, List.length_nil, Nat.zero_add, sz _ (show 1 ≤ 100 by omega), sz _ (show 1 + 1 + 1 ≤ 100 by omega), if_true, mkL, Bool.false_eq_true, if_false, rdx, rd, binP, mul5, ofO, cmpP, q1, q2, truD, truP, Option.bind]
end
theorem c_val (n : Nat) (h : Hd) (d : PD) {s : Str} (hr : reprP [.list [d, d, d, d, d]] = some (.str s)) : callN gc Pd (n + 1) "_law_valued_right" [.dat d] h = .ok (.dat (.bool true)) h := by
  rw [call_def P_val rfl]
  simp only [runDef, d__law_valued_right, b__law_valued_right]
  have m1 : ∀ l h, l[0]? = some (some (D.dat d)) → evEs (callN gc Pd n) gc (.cons (.p1 (.mkv "InvalidNumber" "value") (.var 0)) (.cons (.p1 (.mkv "UnknownName" "name") (.var 0)) (.cons (.p1 (.mkv "TooMany" "limit") (.var 0)) .nil))) l h = .ok [.dat (xv "InvalidNumber" "value" d), .dat (xv "UnknownName" "name" d), .dat (xv "TooMany" "limit" d)] h := by
    intro l h hl
    have v : evE (callN gc Pd n) gc (.var 0) l h = .ok (.dat d) h := e_var hl
    simp only [evEs, e_mkv v, Res.bind]
  have m2 : ∀ l h, l[0]? = some (some (D.dat d)) → evEs (callN gc Pd n) gc (.cons (.p1 (.mkv "Chained" "chain") (.var 0)) (.cons (.p1 (.mkv "NothingToUndo" "many") (.var 0)) .nil)) l h = .ok [.dat (xv "Chained" "chain" d), .dat (xv "NothingToUndo" "many" d)] h := by
    intro l h hl
    have v : evE (callN gc Pd n) gc (.var 0) l h = .ok (.dat d) h := e_var hl
    simp only [evEs, e_mkv v, Res.bind]
  have r1 := v_repr1 (cf := callN gc Pd n) (h := h) d none none none hr
  have r2 := v_repr2 (cf := callN gc Pd n) (h := h) d none none none hr
  have t1 : evT (callN gc Pd n) gc (.cmp .NotEq (.blt .repr (.cons (.lst false (.cons (.p1 (.fld "value" ["InvalidNumber"]) (.var 3)) (.cons (.p1 (.fld "name" ["UnknownName"]) (.var 4)) (.cons (.p1 (.fld "limit" ["TooMany"]) (.var 5)) (.cons (.p1 (.fld "chain" ["Chained"]) (.var 6)) (.cons (.p1 (.fld "many" ["NothingToUndo"]) (.var 7)) .nil)))))) .nil)) (.blt .repr (.cons (.bin .Mult (.lst false (.cons (.var 0) .nil)) (.con (.int 5))) .nil))) (vl d none none none) h = .ok false h := by
    rw [evT, evE, r1, bind_ok, r2, bind_ok]
    simp only [rd, cmpP, ne_str, ofO, Res.bind, truD, truP, Option.bind]
  have t2 : evT (callN gc Pd n) gc (.cmp .NotEq q0__law_valued_right (.lst false .nil)) (vl d none none none) h = .ok false h := by
    rw [evT, evE, v_none, bind_ok]
    simp [evE, evEs, Res.bind, datsOf, mkL, rd, cmpP, neP_nilL, ofO, truD, truP]
  have u1 := v_told1 (cf := callN gc Pd n) (h := h) d none none none
  have u2 := v_told2 (cf := callN gc Pd n) (h := h) d none none
  have u3 := v_unl (cf := callN gc Pd n) (h := h) d (some (.dat (.list [.bool true, .bool true, .bool true, .bool true, .bool true]))) none none
  have u4 := v_end (cf := callN gc Pd n) (h := h) d none
  simp only [List.map_cons, List.map_nil, List.length_cons, List.length_nil, Nat.zero_add, Nat.reduceSub, List.replicate, List.cons_append, List.nil_append]
  rw [exSs, exS, m1 _ _ rfl]
  simp only [Res.out, setAll, List.set_cons_succ, List.set_cons_zero]
  rw [exSs, exS, m2 _ _ rfl]
  simp only [Res.out, setAll, List.set_cons_succ, List.set_cons_zero]
  rw [exSs, exS, t1]
  simp only [Res.out, Bool.false_eq_true, if_false]
  rw [exSs]
  simp only []
  rw [exSs, exS, t2]
  simp only [Res.out, Bool.false_eq_true, if_false]
  rw [exSs]
  simp only []
  rw [exSs, exS, u1]
  simp only [Res.out, List.set_cons_succ, List.set_cons_zero]
  rw [exSs, exS, u2]
  simp only [Res.out, List.set_cons_succ, List.set_cons_zero]
  rw [exSs, exS, u3]
  simp only [Res.out, List.set_cons_succ, List.set_cons_zero]
  rw [exSs, exS, u4]
  simp only [Res.out, leave, List.take_length]
end K00

namespace K00
open PySem PySem.Spec PyProof.Rows L2 Mi
theorem rng_nat (r : Int) (h0 : 0 ≤ r) (h1 : r < 1000) : rngOf [.int r] = some ((List.range r.toNat).map fun (i : Nat) => .int (i : Int)) := by
  unfold rngOf
  dsimp only
  rw [if_pos (by omega)]
theorem eq_ints (i j : Int) : eqP (.int i) (.int j) = some (.bool (i == j)) := by
  simp [eqP, eqOk, scalP, plainV, scal, PyData.eqv]
/-- which number -/
def isAt (k : Int) : PD → PD
  | .int i => .bool (i == k)
  | _ => .none
/-- the class c is the k-th of the nine -/
structure Nth (c : Str) (k : Int) : Prop where
  h1 : t_LetError.lookup c = some true
  h2 : t_ValueError.lookup c = some true
  h3 : t_IndexError.lookup c = some false
  h4 : t_LookupError.lookup c = some false
  k1 : t_InvalidName.lookup c = some (k == 0)
  k2 : t_InvalidTerm.lookup c = some (k == 1)
  k3 : t_InvalidGraph.lookup c = some (k == 2)
  k4 : t_InvalidFamily.lookup c = some (k == 3)
  k5 : t_InvalidAddress.lookup c = some (k == 4)
  k6 : t_InvalidOperation.lookup c = some (k == 5)
  k7 : t_InvalidEdit.lookup c = some (k == 6)
  k8 : t_ParseError.lookup c = some (k == 7)
  k9 : t_InvalidCommand.lookup c = some (k == 8)
theorem turn (n : Nat) (h : Hd) {c : Str} {k : Int} (N : Nth c k) (x0 x1 x2 x5 x6 x7 : Option D) :
    exSs (callN gc Pd (n + 1)) gc w7_law [x0, x1, x2, some (.dat (.int k)), some (.dat (xm c)), x5, x6, x7] h = .nx [x0, x1, x2, some (.dat (.int k)), some (.dat (xm c)), x5, x6, x7] h := by
  have m := c_msg n h N.h1 N.h2 N.h3 N.h4
  have kd := c_kinds n h N.k1 N.k2 N.k3 N.k4 N.k5 N.k6 N.k7 N.k8 N.k9
  have v : ∀ h, evE (callN gc Pd (n + 1)) gc (.var 4) [x0, x1, x2, some (.dat (.int k)), some (.dat (xm c)), x5, x6, x7] h = .ok (.dat (xm c)) h := fun h => e_var rfl
  have e1 : evE (callN gc Pd (n + 1)) gc (.nt (.call "_law_with_message_right" (.cons (.var 4) .nil))) [x0, x1, x2, some (.dat (.int k)), some (.dat (xm c)), x5, x6, x7] h = .ok (.dat (.bool false)) h := by
    rw [evE, evE, evEs, v, bind_ok, evEs, bind_ok, bind_ok, m, bind_ok]
    rfl
  have e2 : evE (callN gc Pd (n + 1)) gc (.call "_law_kinds" (.cons (.var 4) .nil)) [x0, x1, x2, some (.dat (.int k)), some (.dat (xm c)), x5, x6, x7] h = .ok (.dat (.list [.bool (k == 0), .bool (k == 1), .bool (k == 2), .bool (k == 3), .bool (k == 4), .bool (k == 5), .bool (k == 6), .bool (k == 7), .bool (k == 8)])) h := by
    rw [evE, evEs, v, bind_ok, evEs, bind_ok, bind_ok, kd]
  have eI : evI (callN gc Pd (n + 1)) gc (.rng (.cons (.con (.int 9)) .nil)) [x0, x1, x2, some (.dat (.int k)), some (.dat (xm c)), x5, x6, x7] h = .ok ⟨(List.range (9 : Int).toNat).map fun (i : Nat) => .int (i : Int), none⟩ h := by
    simp only [evI, evEs, evE, Res.bind, datsOf, Option.map, Option.bind, rng_nat 9 (by decide) (by decide)]
  have e3 : evE (callN gc Pd (n + 1)) gc q5_law [x0, x1, x2, some (.dat (.int k)), some (.dat (xm c)), x5, x6, x7] h = .ok (.dat (.list (((List.range (9 : Int).toNat).map fun (i : Nat) => PyData.int (i : Int)).map (isAt k)))) h := by
    refine ev_lcM (isAt k) eI (by rw [List.length_map, List.length_range]; exact sz _ (by decide)) fun d hd => ⟨_, rfl, ?_⟩
    obtain ⟨i, hi, rfl⟩ := List.mem_map.mp hd
    simp [y5_law, evE, Res.bind, wipeL, Pt.slots, rd, cmpP, eq_ints, ofO, isAt]
  have q : neP (.list [.bool (k == 0), .bool (k == 1), .bool (k == 2), .bool (k == 3), .bool (k == 4), .bool (k == 5), .bool (k == 6), .bool (k == 7), .bool (k == 8)]) (.list (((List.range (9 : Int).toNat).map fun (i : Nat) => PyData.int (i : Int)).map (isAt k))) = some (.bool false) := by
    have e : ((List.range (9 : Int).toNat).map fun (i : Nat) => PyData.int (i : Int)).map (isAt k) = [.bool (k == 0), .bool (k == 1), .bool (k == 2), .bool (k == 3), .bool (k == 4), .bool (k == 5), .bool (k == 6), .bool (k == 7), .bool (k == 8)] := by
      have sw : ∀ i : Int, (i == k) = (k == i) := fun i => by rw [Bool.eq_iff_iff, beq_iff_eq, beq_iff_eq]; exact eq_comm
      simp [isAt, List.range, List.range.loop, sw]
    rw [e]
    generalize (k == 0) = b0, (k == 1) = b1, (k == 2) = b2, (k == 3) = b3, (k == 4) = b4, (k == 5) = b5, (k == 6) = b6, (k == 7) = b7, (k == 8) = b8
    simp [neP, eqOk, SeqAt.shaped, PyData.canLay0, PyData.canLayAll0, PyData.depth, PyData.depthAll, PyData.eqv, PyData.eqvAll]
  have t : evT (callN gc Pd (n + 1)) gc (.boo false (.cons (.nt (.call "_law_with_message_right" (.cons (.var 4) .nil))) (.cons (.cmp .NotEq (.call "_law_kinds" (.cons (.var 4) .nil)) q5_law) .nil))) [x0, x1, x2, some (.dat (.int k)), some (.dat (xm c)), x5, x6, x7] h = .ok false h := by
    have e4 : evE (callN gc Pd (n + 1)) gc (.cmp .NotEq (.call "_law_kinds" (.cons (.var 4) .nil)) q5_law) [x0, x1, x2, some (.dat (.int k)), some (.dat (xm c)), x5, x6, x7] h = .ok (.dat (.bool false)) h := by
      rw [evE, e2, bind_ok, e3, bind_ok]
      simp only [rd, cmpP, q, ofO]
    rw [evT, evE, evB, e1, bind_ok]
    simp only [truD, rd, truP, Option.bind, Res.bind, if_true, evB, e4]
  rw [w7_law, exSs, exS, t]
  simp only [Res.out, Bool.false_eq_true, if_false, exSs]
theorem loop (n : Nat) (h : Hd) (x0 x1 x2 x5 x6 x7 : Option D) (items0 : List PD) : ∀ (cs : List Str) (k : Int) (x3 x4 : Option D), (∀ (i : Nat) (c : Str), cs[i]? = some c → Nth c (k + (i : Int))) →
    ∃ y3 y4, forRun (.tp (.cons (.nm 3) (.cons (.nm 4) .nil))) ⟨items0, none⟩ (exSs (callN gc Pd (n + 1)) gc w7_law) (enumFrom k (cs.map xm)) [x0, x1, x2, x3, x4, x5, x6, x7] h = .nx [x0, x1, x2, y3, y4, x5, x6, x7] h
  | [], k, x3, x4, _ => by
    refine ⟨x3, x4, ?_⟩
    simp only [List.map_nil, enumFrom]
    unfold forRun
    rw [if_pos (stays_none _ _)]
  | c :: r, k, x3, x4, hc => by
    have N := hc 0 c rfl
    simp only [Int.ofNat_eq_natCast, Int.natCast_zero, Int.add_zero] at N
    obtain ⟨y3, y4, e⟩ := loop n h x0 x1 x2 x5 x6 x7 items0 r (k + 1) (some (.dat (.int k))) (some (.dat (xm c))) fun i c' hi => by
      have := hc (i + 1) c' (by simpa using hi)
      have z : k + ((i + 1 : Nat) : Int) = k + 1 + (i : Int) := by omega
      rw [z] at this
      exact this
    refine ⟨y3, y4, ?_⟩
    simp only [List.map_cons, enumFrom]
    unfold forRun
    rw [if_pos (stays_none _ _)]
    simp only [bindP, bindPs, Option.bind, List.set_cons_succ, List.set_cons_zero]
    rw [turn n h N]
    exact e
def nine : List Str := ["InvalidName", "InvalidTerm", "InvalidGraph", "InvalidFamily", "InvalidAddress", "InvalidOperation", "InvalidEdit", "ParseError", "InvalidCommand"]
theorem nine_ok : ∀ (i : Nat) (c : Str), nine[i]? = some c → Nth c (0 + (i : Int)) := by
  intro i c hc
  have hi : i < 9 := (List.getElem?_eq_some_iff.mp hc).1
  match i, hi, hc with
  | 0, _, hc => cases hc; constructor <;> decide +kernel
  | 1, _, hc => cases hc; constructor <;> decide +kernel
  | 2, _, hc => cases hc; constructor <;> decide +kernel
  | 3, _, hc => cases hc; constructor <;> decide +kernel
  | 4, _, hc => cases hc; constructor <;> decide +kernel
  | 5, _, hc => cases hc; constructor <;> decide +kernel
  | 6, _, hc => cases hc; constructor <;> decide +kernel
  | 7, _, hc => cases hc; constructor <;> decide +kernel
  | 8, _, hc => cases hc; constructor <;> decide +kernel
/-! ### the things -/
def p40 : Int := 10 ^ 40
def p39 : Int := 10 ^ 39
theorem pow_of {a b c : Int} (h : decide (0 ≤ b ∧ (Builtin.Int.intBits a : Int) * b ≤ 2 ^ 27) = true) (e : a ^ b.toNat = c) : powP (.int a) (.int b) = some (.int c) := by
  unfold powP
  dsimp only
  rw [if_pos (of_decide_eq_true h), e]
theorem pw40 : powP (.int 10) (.int 40) = some (.int p40) := pow_of (by decide +kernel) (by decide +kernel)
theorem pw39 : powP (.int 10) (.int 39) = some (.int p39) := pow_of (by decide +kernel) (by decide +kernel)
/-- five times the same can be told -/
def Rp (d : PD) : Prop := ∃ s, reprP [.list [d, d, d, d, d]] = some (.str s)
theorem rp_of {d : PD} (h1 : SeqAt.shaped (.list [d, d, d, d, d]) = true ∨ dictsL (.list [d, d, d, d, d]) = true) (h2 : (PyData.list [d, d, d, d, d]).showable = true) (h3 : (PyData.list [d, d, d, d, d]).shown.length ≤ sizeLine) : Rp d := by
  refine ⟨(PyData.list [d, d, d, d, d]).shown, ?_⟩
  unfold reprP
  dsimp only
  rw [if_pos ⟨h1, h2, h3⟩]
theorem small {n : Nat} (h : Nat.ble n 10000 = true) : n ≤ sizeLine := by
  have := Nat.le_of_ble_eq_true h
  rw [sizeLine_eq]
  omega
def things : List PD := [.none, .int 0, .int (-1), .bool true, .str "", .str "a", .tuple [], .tuple [.int 1, .tuple [.int 2]], .list [], .list [.int 1], .dict [], .dict [(.str "a", .int 1)], .int p39]
theorem int_short {i : Int} (h0 : 0 ≤ i) (h : i < p40) : (PyData.int i).leavesShort 40 = true ∧ (PyData.int i).weight ≤ 200 ∧ (PyData.int i).showable = true := by
  have e40 : p40 = 10 ^ 40 := rfl
  refine ⟨?_, ?_, ?_⟩
  · simp only [PyData.leavesShort, PyData.shown]
    exact decide_eq_true (toString_length_le h0 (by decide) (by rw [e40] at h; exact h))
  · simp only [PyData.weight]
    split
    · omega
    · have : i.natAbs.log2 < 199 := by
        rw [Nat.log2_lt (by simp at *; omega)]
        have e : p40 < 2 ^ 199 := by decide +kernel
        omega
      omega
  · simp only [PyData.showable]
    apply decide_eq_true
    by_cases hi : i.natAbs = 0
    · rw [hi]; decide
    · rw [Nat.log2_lt hi]
      have e : p40.toNat < 2 ^ 1920 := by decide +kernel
      exact Nat.lt_trans (by omega) e
theorem rp_int {i : Int} (h0 : 0 ≤ i) (h : i < p40) : Rp (.int i) := by
  obtain ⟨k1, k2, k3⟩ := int_short h0 h
  refine rp_of (.inl ?_) ?_ ?_
  · simp [SeqAt.shaped, PyData.canLay0, PyData.canLayAll0, PyData.depth, PyData.depthAll]
  · simp only [PyData.showable, PyData.showableAll] at k3 ⊢
    simp [k3]
  · have l := PyData.shown_le 40 (by decide) (.list [.int i, .int i, .int i, .int i, .int i]) (by simp only [PyData.leavesShort, PyData.leavesShortAll] at k1 ⊢; simp [k1])
    have w : (PyData.list [.int i, .int i, .int i, .int i, .int i]).weight ≤ 2000 := by
      simp only [PyData.weight, PyData.weightAll] at k2 ⊢
      omega
    rw [sizeLine_eq]
    omega
theorem things_ok : ∀ d ∈ things, Rp d := by
  intro d hd
  simp only [things, List.mem_cons, List.not_mem_nil, or_false] at hd
  rcases hd with rfl | rfl | rfl | rfl | rfl | rfl | rfl | rfl | rfl | rfl | rfl | rfl | rfl
  · exact rp_of (.inl (by decide +kernel)) (by decide +kernel) (small (by decide +kernel))
  · exact rp_of (.inl (by decide +kernel)) (by decide +kernel) (small (by decide +kernel))
  · exact rp_of (.inl (by decide +kernel)) (by decide +kernel) (small (by decide +kernel))
  · exact rp_of (.inl (by decide +kernel)) (by decide +kernel) (small (by decide +kernel))
  · exact rp_of (.inl (by decide +kernel)) (by decide +kernel) (small (by decide +kernel))
  · exact rp_of (.inl (by decide +kernel)) (by decide +kernel) (small (by decide +kernel))
  · exact rp_of (.inl (by decide +kernel)) (by decide +kernel) (small (by decide +kernel))
  · exact rp_of (.inl (by decide +kernel)) (by decide +kernel) (small (by decide +kernel))
  · exact rp_of (.inl (by decide +kernel)) (by decide +kernel) (small (by decide +kernel))
  · exact rp_of (.inl (by decide +kernel)) (by decide +kernel) (small (by decide +kernel))
  · exact rp_of (.inr (by decide +kernel)) (by decide +kernel) (small (by decide +kernel))
  · exact rp_of (.inr (by decide +kernel)) (by decide +kernel) (small (by decide +kernel))
  · exact rp_int (by decide +kernel) (by decide +kernel)
end K00

namespace K00
open PySem PySem.Spec PyProof.Rows L2 Mi
theorem md {i j : Int} (h : 0 < j) : modP (.int i) (.int j) = some (.int (i % j)) := by
  unfold modP
  dsimp only
  rw [if_pos h]
theorem p40_pos : 0 < p40 := by decide +kernel
theorem cut9 (ns : List Int) : slP (.list (ns.map .int)) none (some 9) = some (.list ((ns.take 9).map .int)) := by
  have e : cutL (ns.map PyData.int) none (some ((9 : Nat) : Int)) = (ns.map PyData.int).take 9 := by
    unfold cutL
    rw [HT.sIx_none, HT.sIx_nat]
    simp
  have e' : cutL (ns.map PyData.int) none (some 9) = (ns.map PyData.int).take 9 := e
  rw [slP, e', List.map_take]
def cellP : PD → PD
  | .int c => .int ((if c < 0 then -c else c) % p40)
  | d => d
section
variable {cf : Str → List D → Hd → Res D} {h : Hd}
theorem l_some1 (l : Mi.Loc) : evE cf gc (.lst false (.cons (.p1 (.mk0 "InvalidName") (.con (.str "a"))) (.cons (.p1 (.mk0 "InvalidTerm") (.con (.str "a"))) (.cons (.p1 (.mk0 "InvalidGraph") (.con (.str "a"))) (.cons (.p1 (.mk0 "InvalidFamily") (.con (.str "a"))) (.cons (.p1 (.mk0 "InvalidAddress") (.con (.str "a"))) .nil)))))) l h = .ok (.dat (.list [xm "InvalidName", xm "InvalidTerm", xm "InvalidGraph", xm "InvalidFamily", xm "InvalidAddress"])) h := by
  rw [evE]
  simp only [evEs, e_mk0, Res.bind, datsOf, Option.map, List.length_cons, List.length_nil, Nat.zero_add, sz _ (show 1 + 1 + 1 + 1 + 1 ≤ 100 by omega), if_true, mkL, Bool.false_eq_true, if_false]
theorem l_some2 (l : Mi.Loc) (hl : l[1]? = some (some (.dat (.list [xm "InvalidName", xm "InvalidTerm", xm "InvalidGraph", xm "InvalidFamily", xm "InvalidAddress"])))) : evE cf gc (.bin .Add (.var 1) (.lst false (.cons (.p1 (.mk0 "InvalidOperation") (.con (.str "a"))) (.cons (.p1 (.mk0 "InvalidEdit") (.con (.str "a"))) (.cons (.p1 (.mk0 "ParseError") (.con (.str "a"))) (.cons (.p1 (.mk0 "InvalidCommand") (.con (.str "a"))) .nil)))))) l h = .ok (.dat (.list (nine.map xm))) h := by
  have L : evE cf gc (.lst false (.cons (.p1 (.mk0 "InvalidOperation") (.con (.str "a"))) (.cons (.p1 (.mk0 "InvalidEdit") (.con (.str "a"))) (.cons (.p1 (.mk0 "ParseError") (.con (.str "a"))) (.cons (.p1 (.mk0 "InvalidCommand") (.con (.str "a"))) .nil))))) l h = .ok (.dat (.list [xm "InvalidOperation", xm "InvalidEdit", xm "ParseError", xm "InvalidCommand"])) h := by
    rw [evE]
    simp only [evEs, e_mk0, Res.bind, datsOf, Option.map, List.length_cons, List.length_nil, Nat.zero_add, sz _ (show 1 + 1 + 1 + 1 ≤ 100 by omega), if_true, mkL, Bool.false_eq_true, if_false]
  rw [evE, e_var hl, bind_ok, L, bind_ok]
  have ad := add_lists (xs := [xm "InvalidName", xm "InvalidTerm", xm "InvalidGraph", xm "InvalidFamily", xm "InvalidAddress"]) (ys := [xm "InvalidOperation", xm "InvalidEdit", xm "ParseError", xm "InvalidCommand"]) (by simp)
  simp only [rdx, binP, ad, ofO, List.cons_append, List.nil_append, nine, List.map_cons, List.map_nil]
theorem l_things (l : Mi.Loc) : evE cf gc (.lst false (.cons (.con .none) (.cons (.con (.int 0)) (.cons (.neg (.con (.int 1))) (.cons (.con (.bool true)) (.cons (.con (.str "")) (.cons (.con (.str "a")) (.cons (.tup .nil) (.cons (.tup (.cons (.con (.int 1)) (.cons (.tup (.cons (.con (.int 2)) .nil)) .nil))) (.cons (.lst false .nil) (.cons (.lst false (.cons (.con (.int 1)) .nil)) (.cons .dnil (.cons (.p1 (.dsp "a") (.con (.int 1))) (.cons (.bin .Pow (.con (.int 10)) (.con (.int 39))) .nil)))))))))))))) l h = .ok (.dat (.list things)) h := by
  have s0 : 0 ≤ sizeLine := Nat.zero_le _
  have s1 := sz _ (show 1 ≤ 100 by omega)
  have s2 := sz _ (show 1 + 1 ≤ 100 by omega)
  have s13 := sz _ (show 1 + 1 + 1 + 1 + 1 + 1 + 1 + 1 + 1 + 1 + 1 + 1 + 1 ≤ 100 by omega)
  have d1 : ∀ h, evE cf gc (.p1 (.dsp "a") (.con (.int 1))) l h = .ok (.dat (.dict [(.str "a", .int 1)])) h := fun h => e_dsp
  generalize hq : E.p1 (.dsp "a") (.con (.int 1)) = q at d1 ⊢
  rw [evE]
  simp only [evEs, d1, evE, Res.bind, rdx, binP, pw39, ofO, datsOf, Option.map, List.length_cons, List.length_nil, Nat.zero_add, s0, s1, s2, s13, if_true, mkL, Bool.false_eq_true, if_false, things, Int.reduceNeg]
end
theorem law_true (ns : List Int) (hl : ns.length ≤ 63) : ∃ h', callN gc Pd 2 "law" [.scr ns] [] = .ok (.dat (.bool true)) h' := by
  refine ⟨[], ?_⟩
  obtain ⟨y3, y4, e1⟩ := loop 0 [] (some (.scr ns)) (some (.dat (.list (nine.map xm)))) none none none none (enumFrom 0 (nine.map xm)) nine 0 none none nine_ok
  have fr : exS (callN gc Pd 1) gc f7_law [some (.scr ns), some (.dat (.list (nine.map xm))), none, none, none, none, none, none] [] = .nx [some (.scr ns), some (.dat (.list (nine.map xm))), none, y3, y4, none, none, none] [] := by
    rw [f7_law, exS]
    have eI : evI (callN gc Pd 1) gc (.enm (.var 1)) [some (.scr ns), some (.dat (.list (nine.map xm))), none, none, none, none, none, none] [] = .ok ⟨enumFrom 0 (nine.map xm), none⟩ [] := by
      rw [evI, e_var (d := .dat (.list (nine.map xm))) rfl, bind_ok]
    rw [eI]
    simp only [Res.out]
    exact e1
  have kd := c_kinds 0 [] (c := "LetError") (b1 := false) (b2 := false) (b3 := false) (b4 := false) (b5 := false) (b6 := false) (b7 := false) (b8 := false) (b9 := false) (by decide +kernel) (by decide +kernel) (by decide +kernel) (by decide +kernel) (by decide +kernel) (by decide +kernel) (by decide +kernel) (by decide +kernel) (by decide +kernel)
  have t1 : ∀ l : Mi.Loc, evT (callN gc Pd 1) gc (.boo false (.cons (.cmp .In (.con (.bool true)) (.call "_law_kinds" (.cons (.p1 (.mk0 "LetError") (.con (.str "a"))) .nil))) (.cons (.nt (.p1 (.isx "ValueError" t_ValueError) (.p1 (.mk0 "LetError") (.con (.str "a"))))) .nil))) l [] = .ok false [] := by
    intro l
    have c1 : evE (callN gc Pd 1) gc (.call "_law_kinds" (.cons (.p1 (.mk0 "LetError") (.con (.str "a"))) .nil)) l [] = .ok (.dat (.list [.bool false, .bool false, .bool false, .bool false, .bool false, .bool false, .bool false, .bool false, .bool false])) [] := by
      rw [evE, evEs, e_mk0, bind_ok, evEs, bind_ok, bind_ok]
      exact kd
    have c2 : cmpP .In (.bool true) (.list [.bool false, .bool false, .bool false, .bool false, .bool false, .bool false, .bool false, .bool false, .bool false]) = some (.bool false) := by rfl
    have c3 : evE (callN gc Pd 1) gc (.cmp .In (.con (.bool true)) (.call "_law_kinds" (.cons (.p1 (.mk0 "LetError") (.con (.str "a"))) .nil))) l [] = .ok (.dat (.bool false)) [] := by
      rw [evE, evE, bind_ok, c1, bind_ok]
      simp only [rd, c2, ofO]
    have c4 : evE (callN gc Pd 1) gc (.nt (.p1 (.isx "ValueError" t_ValueError) (.p1 (.mk0 "LetError") (.con (.str "a"))))) l [] = .ok (.dat (.bool false)) [] := by
      rw [evE, e_isx (b := true) e_mk0 (xm_cls "LetError") (by decide +kernel)]
      rfl
    rw [evT, evE, evB, c3, bind_ok]
    simp only [truD, rd, truP, Option.bind, Res.bind, if_true, evB, c4]
  -- the script's cells
  let cells : List PD := ((ns.take 9).map PyData.int).map cellP
  have cl : ∀ x1 x3 x4, evE (callN gc Pd 1) gc q3_law [some (.scr ns), x1, some (.dat (.list things)), x3, x4, none, none, none] [] = .ok (.dat (.list cells)) [] := by
    intro x1 x3 x4
    have eI : evI (callN gc Pd 1) gc (.seq (.sl false (.var 0) .no (.yes (.con (.int 9))))) [some (.scr ns), x1, some (.dat (.list things)), x3, x4, none, none, none] [] = .ok ⟨(ns.take 9).map .int, none⟩ [] := by
      have s : evE (callN gc Pd 1) gc (.sl false (.var 0) .no (.yes (.con (.int 9)))) [some (.scr ns), x1, some (.dat (.list things)), x3, x4, none, none, none] [] = .ok (.dat (.list ((ns.take 9).map .int))) [] := by
        rw [evE, e_var (d := .scr ns) rfl, bind_ok]
        simp only [evO, evE, Res.bind, rd, cut9, mkL, Bool.false_eq_true, if_false]
      rw [evI, s, bind_ok]
      simp only [seqOf]
    refine ev_lcM cellP eI (by rw [List.length_map]; exact sz _ (by simp; omega)) fun d hd => ⟨_, rfl, ?_⟩
    obtain ⟨c, hc, rfl⟩ := List.mem_map.mp hd
    have ab : absP [.int c] = some (.int (if c < 0 then -c else c)) := rfl
    have it : ∀ c : Int, intP [.int c] = some (.int c) := fun _ => rfl
    simp only [y3_law, wipeL, Pt.slots, List.set_cons_succ, List.set_cons_zero, evE, evEs, Res.bind, List.getElem?_cons_succ, List.getElem?_cons_zero, rdsOf, rd, Bl.fn, ab, it, ofO, rdx, binP, pw40, md p40_pos, cellP]
  have ad : addP (.list things) (.list cells) = some (.list (things ++ cells)) := add_lists (by simp [things, cells]; omega)
  have good : ∀ d ∈ things ++ cells, Rp d := by
    intro d hd
    rcases List.mem_append.mp hd with hd | hd
    · exact things_ok d hd
    · simp only [cells, List.map_map] at hd
      obtain ⟨c, hc, rfl⟩ := List.mem_map.mp hd
      exact rp_int (Int.emod_nonneg _ (by have := p40_pos; omega)) (Int.emod_lt_of_pos _ p40_pos)
  have len : (things ++ cells).length ≤ 100 := by simp [things, cells]; omega
  have fin : ∀ x1 x3 x4, evE (callN gc Pd 1) gc q0_law [some (.scr ns), x1, some (.dat (.list (things ++ cells))), x3, x4, none, none, none] [] = .ok (.dat (.list [])) [] := by
    intro x1 x3 x4
    have eI : evI (callN gc Pd 1) gc (.seq (.var 2)) [some (.scr ns), x1, some (.dat (.list (things ++ cells))), x3, x4, none, none, none] [] = .ok ⟨things ++ cells, none⟩ [] := by
      rw [evI, e_var (d := .dat (.list (things ++ cells))) rfl, bind_ok]
      simp only [seqOf]
    have z := ev_lcF (cf := callN gc Pd 1) (gc := gc) (p := .nm 6) (c := z0_law) (e := y0_law) (fun _ => false) id eI (sz _ len) fun d hd => ⟨_, rfl, by
      obtain ⟨s, hs⟩ := good d hd
      have cv := c_val 0 [] d hs
      have ev : evE (callN gc Pd 1) gc (.nt (.call "_law_valued_right" (.cons (.var 6) .nil))) [some (.scr ns), x1, some (.dat (.list (things ++ cells))), x3, x4, none, some (.dat d), none] [] = .ok (.dat (.bool false)) [] := by
        rw [evE, evE, evEs, e_var (d := .dat d) rfl, bind_ok, evEs, bind_ok, bind_ok, cv, bind_ok]
        rfl
      show evC (callN gc Pd 1) gc z0_law [some (.scr ns), x1, some (.dat (.list (things ++ cells))), x3, x4, none, some (.dat d), none] [] = .ok false []
      rw [z0_law, evC, ev, bind_ok]
      rfl, fun z => by cases z⟩
    have fl : (things ++ cells).filter (fun _ => false) = [] := by simp
    rw [fl] at z
    exact z
  clear_value cells
  rw [call_def P_law rfl]
  simp only [runDef, d_law, b_law, List.map_cons, List.map_nil, List.length_cons, List.length_nil, Nat.zero_add, Nat.reduceSub, List.replicate, List.cons_append, List.nil_append]
  rw [exSs, exS, l_some1]
  simp only [Res.out, List.set_cons_succ, List.set_cons_zero]
  rw [exSs, exS, l_some2 _ rfl]
  simp only [Res.out, List.set_cons_succ, List.set_cons_zero]
  rw [exSs, fr]
  simp only []
  rw [exSs, exS, t1]
  simp only [Res.out, Bool.false_eq_true, if_false]
  rw [exSs]
  simp only []
  rw [exSs, exS, l_things]
  simp only [Res.out, List.set_cons_succ, List.set_cons_zero]
  have e5 : evE (callN gc Pd 1) gc (.bin .Add (.var 2) q3_law) [some (.scr ns), some (.dat (.list (nine.map xm))), some (.dat (.list things)), y3, y4, none, none, none] [] = .ok (.dat (.list (things ++ cells))) [] := by
    rw [evE, e_var (d := .dat (.list things)) rfl, bind_ok, cl, bind_ok]
    simp only [rdx, binP, ad, ofO]
  rw [exSs, exS, e5]
  simp only [Res.out, List.set_cons_succ, List.set_cons_zero]
  have e6 : evE (callN gc Pd 1) gc (.cmp .Eq q0_law (.lst false .nil)) [some (.scr ns), some (.dat (.list (nine.map xm))), some (.dat (.list (things ++ cells))), y3, y4, none, none, none] [] = .ok (.dat (.bool true)) [] := by
    rw [evE, fin, bind_ok]
    simp [evE, evEs, Res.bind, datsOf, mkL, rd, cmpP, eqP_nilL, ofO]
  rw [exSs, exS, e6]
  simp only [Res.out, leave, List.take_nil]
end K00

namespace K00
open PySem PySem.Spec PyProof.Rows L2 Mi
theorem ff_mk {K : Frg} {nm : Str} {st : Stmt} {f : Addr} {oc : Value} {od : Option Addr} {kV dc pm : Value} {an : Option Addr} {cd ct : Value} {sl : Array (Option Value)} (a : PySem.W.nsIn K mainGlobals nm = some (some (.ref f))) (l : K.lookup f = some ⟨oc, od, .func (PySem.W.fnOf nm nm (defArgs st) (defBody st) (defScope st) .none kV dc pm an cd ct), sl⟩)
    (c : PySem.W.codeIn K cd nm = true) (k : PySem.W.keepIn K (.ref f) = true) : FF K nm st := ⟨_, _, _, _, _, _, _, _, _, _, a, l, c, k⟩
def methS (i j : Nat) : Stmt := match topS i with
  | .ClassDef _ _ _ body _ _ _ _ _ _ _ => body.getD j (.Pass ⟨0, 0, 0, 0⟩)
  | s => s
theorem xf_mk {K : Frg} {c f : Str} {B newId initId : String} {bm : List Value} {st : Stmt} {qual : Str} {C fI : Addr} {oc : Value} {od : Option Addr} {kV dc pm : Value} {an : Option Addr} {cd ct : Value} {sl : Array (Option Value)}
    {nm q : Str} {N : Addr} {bs : List Value} {sn : List Str} {sub : List Value} {ab : Bool} {col : Option Bool} {dd : Option Addr} {k0 k1 k2 k3 k5 : Option Value}
    (x1 : PySem.W.nsIn K mainGlobals c = some (some (.ref C))) (x2 : K.lookup C = some (excClassObj nm q C N bs bm true sn sub ab col dd k0 k1 k2 k3 k5 newId))
    (x3 : PySem.W.findIn K (.ref C) "__setattr__" = some (some (.builtin "object.__setattr__"))) (x4 : PySem.W.subIn K (.ref C) (.type "BaseException") = some true) (x5 : PySem.W.typeIn K (.ref C) = some (.type "type")) (x6 : PySem.W.keepIn K (.ref C) = true)
    (x7 : PySem.W.findIn K (.ref C) "__init__" = some (some (.ref fI))) (x8 : PySem.W.typeIn K (.ref fI) = some (.type "function"))
    (x9 : K.lookup fI = some ⟨oc, od, .func (PySem.W.fnOf "__init__" qual (defArgs st) (defBody st) (defScope st) .none kV dc pm an cd ct), sl⟩) (x10 : PySem.W.codeIn K cd qual = true) (x11 : PySem.W.keepIn K (.ref fI) = true)
    (x12 : PySem.W.findIn K (.ref C) f = some none) (x13 : PySem.W.findIn K (.ref C) "__getattribute__" = some (some (.builtin "BaseException.__getattribute__"))) (x14 : PySem.W.findIn K (.ref C) "__getattr__" = some none) (x17 : PySem.W.hasDictIn K C = true) (x18 : PySem.W.isClsIn K C = true) (x19 : PySem.W.subIn K (.ref C) (.ref C) = some true) (x15 : PySem.W.findCls K (.type B) (.type "type") "__init__" = some (.val (.builtin initId))) (x16 : PySem.W.nsIn K mainGlobals (Str.ofString B) = some none) :
    XF K c f B newId initId bm st qual := by
  have y1 : xfB K C = true := by
    unfold xfB
    rw [decide_eq_true x13, decide_eq_true x14, decide_eq_true x4, x17]
    rfl
  have y2 : PySem.W.exmOne K (.ref C) (.ref C) = some true := by
    have e2 : (PySem.W.clsIn K C).isSome = true := x18
    unfold PySem.W.exmOne
    rw [x4, if_pos (by rfl)]
    show (if ((PySem.W.clsIn K C).isSome && PySem.W.typeIn K (.ref C) == some (.type "type")) = true then PySem.W.subIn K (.ref C) (.ref C) else none) = some true
    rw [e2, x5, if_pos (by rfl), x19]
  exact ⟨C, fI, oc, od, kV, dc, pm, an, cd, ct, sl, x1, ⟨nm, q, N, bs, sn, sub, ab, col, dd, k0, k1, k2, k3, k5, x2⟩, x3, x4, x5, x6, x7, x8, x9, x10, x11, x12, y1, y2, x15, x16⟩
/-- what the head says of an own exception class -/
structure CF (K : Frg) (c : Str) (C : Addr) : Prop where
  ns : PySem.W.nsIn K mainGlobals c = some (some (.ref C))
  ga : PySem.W.findIn K (.ref C) "__getattribute__" = some (some (.builtin "BaseException.__getattribute__"))
  gg : PySem.W.findIn K (.ref C) "__getattr__" = some none
  sb : PySem.W.subIn K (.ref C) (.type "BaseException") = some true
  hd : PySem.W.hasDictIn K C = true
  ca : PySem.W.findIn K (.ref C) "__class__" = some (some (.builtin "object.__class__"))
  mr : PySem.W.mroIn K C (.type "object") = some true
  cl : PySem.W.isClsIn K C = true
  ty : PySem.W.typeIn K (.ref C) = some (.type "type")
  se : PySem.W.subIn K (.ref C) (.ref C) = some true
structure KF (K : Frg) : Prop where
  sp : PySem.W.specialIn K (.builtin "object.__class__") "__get__" = some (some (.builtin "getset_descriptor.__get__"))
  tk : PySem.W.takesIn K (.builtin "object.__class__") = some true
theorem CF.ex {K : Frg} {c : Str} {C : Addr} (f : CF K c C) (k : KF K) : ExcC K C := ⟨f.ga, f.gg, f.sb, f.hd, f.ca, k.sp, k.tk, f.mr⟩
theorem CF.at {K : Frg} {c : Str} {C : Addr} (f : CF K c C) : caK K c = some C := by
  unfold caK
  rw [f.ns]
theorem kit_own {K : Frg} {c c' : Str} {C C' : Addr} {b : Bool} (f : CF K c C) (f' : CF K c' C') (h : PySem.W.subIn K (.ref C) (.ref C') = some b) : PySem.W.kitOne K (.ref C) (.ref C') = some b := by
  unfold PySem.W.kitOne
  by_cases e : (Value.ref C == Value.ref C') = true
  · rw [if_pos e]
    have e2 : C = C' := Value.ref.inj (beq_iff_eq.mp e)
    subst e2
    rw [f.se] at h
    exact h
  · rw [if_neg e]
    have e2 : (PySem.W.clsIn K C').isSome = true := f'.cl
    show (if ((PySem.W.clsIn K C').isSome && PySem.W.typeIn K (.ref C') == some (.type "type")) = true then PySem.W.subIn K (.ref C) (.ref C') else none) = some b
    rw [e2, f'.ty, if_pos (by rfl), h]
theorem kit_blt {K : Frg} {C : Addr} {T : String} {b : Bool} (hm : PySem.W.kitMeta T = true) (h : PySem.W.subIn K (.ref C) (.type T) = some b) : PySem.W.kitOne K (.ref C) (.type T) = some b := by
  unfold PySem.W.kitOne
  rw [if_neg (by intro z; have := beq_iff_eq.mp z; cases this)]
  show (if PySem.W.kitMeta T = true then PySem.W.subIn K (.ref C) (.type T) else none) = some b
  rw [if_pos hm, h]

structure SF (K : Frg) (C0 C1 C2 C3 C4 C5 C6 C7 C8 C9 C10 C11 C12 C13 C14 : Addr) : Prop where
  s_LetError_LetError : PySem.W.subIn K (.ref C0) (.ref C0) = some true
  s_InvalidName_LetError : PySem.W.subIn K (.ref C1) (.ref C0) = some true
  s_InvalidTerm_LetError : PySem.W.subIn K (.ref C2) (.ref C0) = some true
  s_InvalidGraph_LetError : PySem.W.subIn K (.ref C3) (.ref C0) = some true
  s_InvalidFamily_LetError : PySem.W.subIn K (.ref C4) (.ref C0) = some true
  s_InvalidAddress_LetError : PySem.W.subIn K (.ref C5) (.ref C0) = some true
  s_InvalidOperation_LetError : PySem.W.subIn K (.ref C6) (.ref C0) = some true
  s_InvalidEdit_LetError : PySem.W.subIn K (.ref C7) (.ref C0) = some true
  s_ParseError_LetError : PySem.W.subIn K (.ref C8) (.ref C0) = some true
  s_InvalidCommand_LetError : PySem.W.subIn K (.ref C9) (.ref C0) = some true
  s_InvalidNumber_LetError : PySem.W.subIn K (.ref C10) (.ref C0) = some false
  s_UnknownName_LetError : PySem.W.subIn K (.ref C11) (.ref C0) = some false
  s_TooMany_LetError : PySem.W.subIn K (.ref C12) (.ref C0) = some false
  s_Chained_LetError : PySem.W.subIn K (.ref C13) (.ref C0) = some false
  s_NothingToUndo_LetError : PySem.W.subIn K (.ref C14) (.ref C0) = some false
  s_LetError_ValueError : PySem.W.subIn K (.ref C0) (.type "ValueError") = some true
  s_InvalidName_ValueError : PySem.W.subIn K (.ref C1) (.type "ValueError") = some true
  s_InvalidTerm_ValueError : PySem.W.subIn K (.ref C2) (.type "ValueError") = some true
  s_InvalidGraph_ValueError : PySem.W.subIn K (.ref C3) (.type "ValueError") = some true
  s_InvalidFamily_ValueError : PySem.W.subIn K (.ref C4) (.type "ValueError") = some true
  s_InvalidAddress_ValueError : PySem.W.subIn K (.ref C5) (.type "ValueError") = some true
  s_InvalidOperation_ValueError : PySem.W.subIn K (.ref C6) (.type "ValueError") = some true
  s_InvalidEdit_ValueError : PySem.W.subIn K (.ref C7) (.type "ValueError") = some true
  s_ParseError_ValueError : PySem.W.subIn K (.ref C8) (.type "ValueError") = some true
  s_InvalidCommand_ValueError : PySem.W.subIn K (.ref C9) (.type "ValueError") = some true
  s_InvalidName_IndexError : PySem.W.subIn K (.ref C1) (.type "IndexError") = some false
  s_InvalidTerm_IndexError : PySem.W.subIn K (.ref C2) (.type "IndexError") = some false
  s_InvalidGraph_IndexError : PySem.W.subIn K (.ref C3) (.type "IndexError") = some false
  s_InvalidFamily_IndexError : PySem.W.subIn K (.ref C4) (.type "IndexError") = some false
  s_InvalidAddress_IndexError : PySem.W.subIn K (.ref C5) (.type "IndexError") = some false
  s_InvalidOperation_IndexError : PySem.W.subIn K (.ref C6) (.type "IndexError") = some false
  s_InvalidEdit_IndexError : PySem.W.subIn K (.ref C7) (.type "IndexError") = some false
  s_ParseError_IndexError : PySem.W.subIn K (.ref C8) (.type "IndexError") = some false
  s_InvalidCommand_IndexError : PySem.W.subIn K (.ref C9) (.type "IndexError") = some false
  s_InvalidNumber_IndexError : PySem.W.subIn K (.ref C10) (.type "IndexError") = some true
  s_InvalidName_LookupError : PySem.W.subIn K (.ref C1) (.type "LookupError") = some false
  s_InvalidTerm_LookupError : PySem.W.subIn K (.ref C2) (.type "LookupError") = some false
  s_InvalidGraph_LookupError : PySem.W.subIn K (.ref C3) (.type "LookupError") = some false
  s_InvalidFamily_LookupError : PySem.W.subIn K (.ref C4) (.type "LookupError") = some false
  s_InvalidAddress_LookupError : PySem.W.subIn K (.ref C5) (.type "LookupError") = some false
  s_InvalidOperation_LookupError : PySem.W.subIn K (.ref C6) (.type "LookupError") = some false
  s_InvalidEdit_LookupError : PySem.W.subIn K (.ref C7) (.type "LookupError") = some false
  s_ParseError_LookupError : PySem.W.subIn K (.ref C8) (.type "LookupError") = some false
  s_InvalidCommand_LookupError : PySem.W.subIn K (.ref C9) (.type "LookupError") = some false
  s_NothingToUndo_LookupError : PySem.W.subIn K (.ref C14) (.type "LookupError") = some true
  s_UnknownName_KeyError : PySem.W.subIn K (.ref C11) (.type "KeyError") = some true
  s_TooMany_OverflowError : PySem.W.subIn K (.ref C12) (.type "OverflowError") = some true
  s_Chained_RuntimeError : PySem.W.subIn K (.ref C13) (.type "RuntimeError") = some true
  s_InvalidNumber_InvalidNumber : PySem.W.subIn K (.ref C10) (.ref C10) = some true
  s_UnknownName_InvalidNumber : PySem.W.subIn K (.ref C11) (.ref C10) = some false
  s_NothingToUndo_InvalidNumber : PySem.W.subIn K (.ref C14) (.ref C10) = some false
  s_LetError_InvalidName : PySem.W.subIn K (.ref C0) (.ref C1) = some false
  s_InvalidName_InvalidName : PySem.W.subIn K (.ref C1) (.ref C1) = some true
  s_InvalidTerm_InvalidName : PySem.W.subIn K (.ref C2) (.ref C1) = some false
  s_InvalidGraph_InvalidName : PySem.W.subIn K (.ref C3) (.ref C1) = some false
  s_InvalidFamily_InvalidName : PySem.W.subIn K (.ref C4) (.ref C1) = some false
  s_InvalidAddress_InvalidName : PySem.W.subIn K (.ref C5) (.ref C1) = some false
  s_InvalidOperation_InvalidName : PySem.W.subIn K (.ref C6) (.ref C1) = some false
  s_InvalidEdit_InvalidName : PySem.W.subIn K (.ref C7) (.ref C1) = some false
  s_ParseError_InvalidName : PySem.W.subIn K (.ref C8) (.ref C1) = some false
  s_InvalidCommand_InvalidName : PySem.W.subIn K (.ref C9) (.ref C1) = some false
  s_LetError_InvalidTerm : PySem.W.subIn K (.ref C0) (.ref C2) = some false
  s_InvalidName_InvalidTerm : PySem.W.subIn K (.ref C1) (.ref C2) = some false
  s_InvalidTerm_InvalidTerm : PySem.W.subIn K (.ref C2) (.ref C2) = some true
  s_InvalidGraph_InvalidTerm : PySem.W.subIn K (.ref C3) (.ref C2) = some false
  s_InvalidFamily_InvalidTerm : PySem.W.subIn K (.ref C4) (.ref C2) = some false
  s_InvalidAddress_InvalidTerm : PySem.W.subIn K (.ref C5) (.ref C2) = some false
  s_InvalidOperation_InvalidTerm : PySem.W.subIn K (.ref C6) (.ref C2) = some false
  s_InvalidEdit_InvalidTerm : PySem.W.subIn K (.ref C7) (.ref C2) = some false
  s_ParseError_InvalidTerm : PySem.W.subIn K (.ref C8) (.ref C2) = some false
  s_InvalidCommand_InvalidTerm : PySem.W.subIn K (.ref C9) (.ref C2) = some false
  s_LetError_InvalidGraph : PySem.W.subIn K (.ref C0) (.ref C3) = some false
  s_InvalidName_InvalidGraph : PySem.W.subIn K (.ref C1) (.ref C3) = some false
  s_InvalidTerm_InvalidGraph : PySem.W.subIn K (.ref C2) (.ref C3) = some false
  s_InvalidGraph_InvalidGraph : PySem.W.subIn K (.ref C3) (.ref C3) = some true
  s_InvalidFamily_InvalidGraph : PySem.W.subIn K (.ref C4) (.ref C3) = some false
  s_InvalidAddress_InvalidGraph : PySem.W.subIn K (.ref C5) (.ref C3) = some false
  s_InvalidOperation_InvalidGraph : PySem.W.subIn K (.ref C6) (.ref C3) = some false
  s_InvalidEdit_InvalidGraph : PySem.W.subIn K (.ref C7) (.ref C3) = some false
  s_ParseError_InvalidGraph : PySem.W.subIn K (.ref C8) (.ref C3) = some false
  s_InvalidCommand_InvalidGraph : PySem.W.subIn K (.ref C9) (.ref C3) = some false
  s_LetError_InvalidFamily : PySem.W.subIn K (.ref C0) (.ref C4) = some false
  s_InvalidName_InvalidFamily : PySem.W.subIn K (.ref C1) (.ref C4) = some false
  s_InvalidTerm_InvalidFamily : PySem.W.subIn K (.ref C2) (.ref C4) = some false
  s_InvalidGraph_InvalidFamily : PySem.W.subIn K (.ref C3) (.ref C4) = some false
  s_InvalidFamily_InvalidFamily : PySem.W.subIn K (.ref C4) (.ref C4) = some true
  s_InvalidAddress_InvalidFamily : PySem.W.subIn K (.ref C5) (.ref C4) = some false
  s_InvalidOperation_InvalidFamily : PySem.W.subIn K (.ref C6) (.ref C4) = some false
  s_InvalidEdit_InvalidFamily : PySem.W.subIn K (.ref C7) (.ref C4) = some false
  s_ParseError_InvalidFamily : PySem.W.subIn K (.ref C8) (.ref C4) = some false
  s_InvalidCommand_InvalidFamily : PySem.W.subIn K (.ref C9) (.ref C4) = some false
  s_LetError_InvalidAddress : PySem.W.subIn K (.ref C0) (.ref C5) = some false
  s_InvalidName_InvalidAddress : PySem.W.subIn K (.ref C1) (.ref C5) = some false
  s_InvalidTerm_InvalidAddress : PySem.W.subIn K (.ref C2) (.ref C5) = some false
  s_InvalidGraph_InvalidAddress : PySem.W.subIn K (.ref C3) (.ref C5) = some false
  s_InvalidFamily_InvalidAddress : PySem.W.subIn K (.ref C4) (.ref C5) = some false
  s_InvalidAddress_InvalidAddress : PySem.W.subIn K (.ref C5) (.ref C5) = some true
  s_InvalidOperation_InvalidAddress : PySem.W.subIn K (.ref C6) (.ref C5) = some false
  s_InvalidEdit_InvalidAddress : PySem.W.subIn K (.ref C7) (.ref C5) = some false
  s_ParseError_InvalidAddress : PySem.W.subIn K (.ref C8) (.ref C5) = some false
  s_InvalidCommand_InvalidAddress : PySem.W.subIn K (.ref C9) (.ref C5) = some false
  s_LetError_InvalidOperation : PySem.W.subIn K (.ref C0) (.ref C6) = some false
  s_InvalidName_InvalidOperation : PySem.W.subIn K (.ref C1) (.ref C6) = some false
  s_InvalidTerm_InvalidOperation : PySem.W.subIn K (.ref C2) (.ref C6) = some false
  s_InvalidGraph_InvalidOperation : PySem.W.subIn K (.ref C3) (.ref C6) = some false
  s_InvalidFamily_InvalidOperation : PySem.W.subIn K (.ref C4) (.ref C6) = some false
  s_InvalidAddress_InvalidOperation : PySem.W.subIn K (.ref C5) (.ref C6) = some false
  s_InvalidOperation_InvalidOperation : PySem.W.subIn K (.ref C6) (.ref C6) = some true
  s_InvalidEdit_InvalidOperation : PySem.W.subIn K (.ref C7) (.ref C6) = some false
  s_ParseError_InvalidOperation : PySem.W.subIn K (.ref C8) (.ref C6) = some false
  s_InvalidCommand_InvalidOperation : PySem.W.subIn K (.ref C9) (.ref C6) = some false
  s_LetError_InvalidEdit : PySem.W.subIn K (.ref C0) (.ref C7) = some false
  s_InvalidName_InvalidEdit : PySem.W.subIn K (.ref C1) (.ref C7) = some false
  s_InvalidTerm_InvalidEdit : PySem.W.subIn K (.ref C2) (.ref C7) = some false
  s_InvalidGraph_InvalidEdit : PySem.W.subIn K (.ref C3) (.ref C7) = some false
  s_InvalidFamily_InvalidEdit : PySem.W.subIn K (.ref C4) (.ref C7) = some false
  s_InvalidAddress_InvalidEdit : PySem.W.subIn K (.ref C5) (.ref C7) = some false
  s_InvalidOperation_InvalidEdit : PySem.W.subIn K (.ref C6) (.ref C7) = some false
  s_InvalidEdit_InvalidEdit : PySem.W.subIn K (.ref C7) (.ref C7) = some true
  s_ParseError_InvalidEdit : PySem.W.subIn K (.ref C8) (.ref C7) = some false
  s_InvalidCommand_InvalidEdit : PySem.W.subIn K (.ref C9) (.ref C7) = some false
  s_LetError_ParseError : PySem.W.subIn K (.ref C0) (.ref C8) = some false
  s_InvalidName_ParseError : PySem.W.subIn K (.ref C1) (.ref C8) = some false
  s_InvalidTerm_ParseError : PySem.W.subIn K (.ref C2) (.ref C8) = some false
  s_InvalidGraph_ParseError : PySem.W.subIn K (.ref C3) (.ref C8) = some false
  s_InvalidFamily_ParseError : PySem.W.subIn K (.ref C4) (.ref C8) = some false
  s_InvalidAddress_ParseError : PySem.W.subIn K (.ref C5) (.ref C8) = some false
  s_InvalidOperation_ParseError : PySem.W.subIn K (.ref C6) (.ref C8) = some false
  s_InvalidEdit_ParseError : PySem.W.subIn K (.ref C7) (.ref C8) = some false
  s_ParseError_ParseError : PySem.W.subIn K (.ref C8) (.ref C8) = some true
  s_InvalidCommand_ParseError : PySem.W.subIn K (.ref C9) (.ref C8) = some false
  s_LetError_InvalidCommand : PySem.W.subIn K (.ref C0) (.ref C9) = some false
  s_InvalidName_InvalidCommand : PySem.W.subIn K (.ref C1) (.ref C9) = some false
  s_InvalidTerm_InvalidCommand : PySem.W.subIn K (.ref C2) (.ref C9) = some false
  s_InvalidGraph_InvalidCommand : PySem.W.subIn K (.ref C3) (.ref C9) = some false
  s_InvalidFamily_InvalidCommand : PySem.W.subIn K (.ref C4) (.ref C9) = some false
  s_InvalidAddress_InvalidCommand : PySem.W.subIn K (.ref C5) (.ref C9) = some false
  s_InvalidOperation_InvalidCommand : PySem.W.subIn K (.ref C6) (.ref C9) = some false
  s_InvalidEdit_InvalidCommand : PySem.W.subIn K (.ref C7) (.ref C9) = some false
  s_ParseError_InvalidCommand : PySem.W.subIn K (.ref C8) (.ref C9) = some false
  s_InvalidCommand_InvalidCommand : PySem.W.subIn K (.ref C9) (.ref C9) = some true
structure AF (K : Frg) (C0 C1 C2 C3 C4 C5 C6 C7 C8 C9 C10 C11 C12 C13 C14 : Addr) : Prop where
  kf : KF K
  f_LetError : CF K "LetError" C0
  f_InvalidName : CF K "InvalidName" C1
  f_InvalidTerm : CF K "InvalidTerm" C2
  f_InvalidGraph : CF K "InvalidGraph" C3
  f_InvalidFamily : CF K "InvalidFamily" C4
  f_InvalidAddress : CF K "InvalidAddress" C5
  f_InvalidOperation : CF K "InvalidOperation" C6
  f_InvalidEdit : CF K "InvalidEdit" C7
  f_ParseError : CF K "ParseError" C8
  f_InvalidCommand : CF K "InvalidCommand" C9
  f_InvalidNumber : CF K "InvalidNumber" C10
  f_UnknownName : CF K "UnknownName" C11
  f_TooMany : CF K "TooMany" C12
  f_Chained : CF K "Chained" C13
  f_NothingToUndo : CF K "NothingToUndo" C14
  sf : SF K C0 C1 C2 C3 C4 C5 C6 C7 C8 C9 C10 C11 C12 C13 C14
theorem it_ok {K : Frg} {h : Heap} {mg : Str → Option Value} {C0 C1 C2 C3 C4 C5 C6 C7 C8 C9 C10 C11 C12 C13 C14 : Addr} (kin : K.In h) (G : h.Ns mainGlobals mg) (A : AF K C0 C1 C2 C3 C4 C5 C6 C7 C8 C9 C10 C11 C12 C13 C14) (bl : PySem.W.nsIn K mainGlobals "ValueError" = some none ∧ PySem.W.nsIn K mainGlobals "IndexError" = some none ∧ PySem.W.nsIn K mainGlobals "LookupError" = some none ∧ PySem.W.nsIn K mainGlobals "KeyError" = some none ∧ PySem.W.nsIn K mainGlobals "OverflowError" = some none ∧ PySem.W.nsIn K mainGlobals "RuntimeError" = some none) : ItOk' K mg xt := by
  obtain ⟨b_ValueError, b_IndexError, b_LookupError, b_KeyError, b_OverflowError, b_RuntimeError⟩ := bl
  intro y tab hy0
  have hy := of_decide_eq_true hy0
  clear hy0
  unfold xtL at hy
  rw [List.lookup_cons] at hy
  split at hy
  · rename_i e
    have e := beq_iff_eq.mp e
    subst e
    cases hy
    refine ⟨.ref C0, .ref C0, .inl ⟨PySem.W.mg_of kin G A.f_LetError.ns, _, rfl, rfl⟩, fun c b hl => ?_⟩
    unfold t_LetError at hl
    rw [List.lookup_cons] at hl
    split at hl
    · rename_i e
      have e := beq_iff_eq.mp e
      subst e
      cases hl
      exact ⟨_, A.f_LetError.at, A.f_LetError.ex A.kf, kit_own A.f_LetError A.f_LetError A.sf.s_LetError_LetError⟩
    rw [List.lookup_cons] at hl
    split at hl
    · rename_i e
      have e := beq_iff_eq.mp e
      subst e
      cases hl
      exact ⟨_, A.f_InvalidName.at, A.f_InvalidName.ex A.kf, kit_own A.f_InvalidName A.f_LetError A.sf.s_InvalidName_LetError⟩
    rw [List.lookup_cons] at hl
    split at hl
    · rename_i e
      have e := beq_iff_eq.mp e
      subst e
      cases hl
      exact ⟨_, A.f_InvalidTerm.at, A.f_InvalidTerm.ex A.kf, kit_own A.f_InvalidTerm A.f_LetError A.sf.s_InvalidTerm_LetError⟩
    rw [List.lookup_cons] at hl
    split at hl
    · rename_i e
      have e := beq_iff_eq.mp e
      subst e
      cases hl
      exact ⟨_, A.f_InvalidGraph.at, A.f_InvalidGraph.ex A.kf, kit_own A.f_InvalidGraph A.f_LetError A.sf.s_InvalidGraph_LetError⟩
    rw [List.lookup_cons] at hl
    split at hl
    · rename_i e
      have e := beq_iff_eq.mp e
      subst e
      cases hl
      exact ⟨_, A.f_InvalidFamily.at, A.f_InvalidFamily.ex A.kf, kit_own A.f_InvalidFamily A.f_LetError A.sf.s_InvalidFamily_LetError⟩
    rw [List.lookup_cons] at hl
    split at hl
    · rename_i e
      have e := beq_iff_eq.mp e
      subst e
      cases hl
      exact ⟨_, A.f_InvalidAddress.at, A.f_InvalidAddress.ex A.kf, kit_own A.f_InvalidAddress A.f_LetError A.sf.s_InvalidAddress_LetError⟩
    rw [List.lookup_cons] at hl
    split at hl
    · rename_i e
      have e := beq_iff_eq.mp e
      subst e
      cases hl
      exact ⟨_, A.f_InvalidOperation.at, A.f_InvalidOperation.ex A.kf, kit_own A.f_InvalidOperation A.f_LetError A.sf.s_InvalidOperation_LetError⟩
    rw [List.lookup_cons] at hl
    split at hl
    · rename_i e
      have e := beq_iff_eq.mp e
      subst e
      cases hl
      exact ⟨_, A.f_InvalidEdit.at, A.f_InvalidEdit.ex A.kf, kit_own A.f_InvalidEdit A.f_LetError A.sf.s_InvalidEdit_LetError⟩
    rw [List.lookup_cons] at hl
    split at hl
    · rename_i e
      have e := beq_iff_eq.mp e
      subst e
      cases hl
      exact ⟨_, A.f_ParseError.at, A.f_ParseError.ex A.kf, kit_own A.f_ParseError A.f_LetError A.sf.s_ParseError_LetError⟩
    rw [List.lookup_cons] at hl
    split at hl
    · rename_i e
      have e := beq_iff_eq.mp e
      subst e
      cases hl
      exact ⟨_, A.f_InvalidCommand.at, A.f_InvalidCommand.ex A.kf, kit_own A.f_InvalidCommand A.f_LetError A.sf.s_InvalidCommand_LetError⟩
    rw [List.lookup_cons] at hl
    split at hl
    · rename_i e
      have e := beq_iff_eq.mp e
      subst e
      cases hl
      exact ⟨_, A.f_InvalidNumber.at, A.f_InvalidNumber.ex A.kf, kit_own A.f_InvalidNumber A.f_LetError A.sf.s_InvalidNumber_LetError⟩
    rw [List.lookup_cons] at hl
    split at hl
    · rename_i e
      have e := beq_iff_eq.mp e
      subst e
      cases hl
      exact ⟨_, A.f_UnknownName.at, A.f_UnknownName.ex A.kf, kit_own A.f_UnknownName A.f_LetError A.sf.s_UnknownName_LetError⟩
    rw [List.lookup_cons] at hl
    split at hl
    · rename_i e
      have e := beq_iff_eq.mp e
      subst e
      cases hl
      exact ⟨_, A.f_TooMany.at, A.f_TooMany.ex A.kf, kit_own A.f_TooMany A.f_LetError A.sf.s_TooMany_LetError⟩
    rw [List.lookup_cons] at hl
    split at hl
    · rename_i e
      have e := beq_iff_eq.mp e
      subst e
      cases hl
      exact ⟨_, A.f_Chained.at, A.f_Chained.ex A.kf, kit_own A.f_Chained A.f_LetError A.sf.s_Chained_LetError⟩
    rw [List.lookup_cons] at hl
    split at hl
    · rename_i e
      have e := beq_iff_eq.mp e
      subst e
      cases hl
      exact ⟨_, A.f_NothingToUndo.at, A.f_NothingToUndo.ex A.kf, kit_own A.f_NothingToUndo A.f_LetError A.sf.s_NothingToUndo_LetError⟩
    cases hl
  rw [List.lookup_cons] at hy
  split at hy
  · rename_i e
    have e := beq_iff_eq.mp e
    subst e
    cases hy
    refine ⟨.type "ValueError", .ty "ValueError", .inr ⟨PySem.W.mg_none_of kin G b_ValueError, _, by kernel_rfl, rfl, rfl⟩, fun c b hl => ?_⟩
    unfold t_ValueError at hl
    rw [List.lookup_cons] at hl
    split at hl
    · rename_i e
      have e := beq_iff_eq.mp e
      subst e
      cases hl
      exact ⟨_, A.f_LetError.at, A.f_LetError.ex A.kf, kit_blt (by decide +kernel) A.sf.s_LetError_ValueError⟩
    rw [List.lookup_cons] at hl
    split at hl
    · rename_i e
      have e := beq_iff_eq.mp e
      subst e
      cases hl
      exact ⟨_, A.f_InvalidName.at, A.f_InvalidName.ex A.kf, kit_blt (by decide +kernel) A.sf.s_InvalidName_ValueError⟩
    rw [List.lookup_cons] at hl
    split at hl
    · rename_i e
      have e := beq_iff_eq.mp e
      subst e
      cases hl
      exact ⟨_, A.f_InvalidTerm.at, A.f_InvalidTerm.ex A.kf, kit_blt (by decide +kernel) A.sf.s_InvalidTerm_ValueError⟩
    rw [List.lookup_cons] at hl
    split at hl
    · rename_i e
      have e := beq_iff_eq.mp e
      subst e
      cases hl
      exact ⟨_, A.f_InvalidGraph.at, A.f_InvalidGraph.ex A.kf, kit_blt (by decide +kernel) A.sf.s_InvalidGraph_ValueError⟩
    rw [List.lookup_cons] at hl
    split at hl
    · rename_i e
      have e := beq_iff_eq.mp e
      subst e
      cases hl
      exact ⟨_, A.f_InvalidFamily.at, A.f_InvalidFamily.ex A.kf, kit_blt (by decide +kernel) A.sf.s_InvalidFamily_ValueError⟩
    rw [List.lookup_cons] at hl
    split at hl
    · rename_i e
      have e := beq_iff_eq.mp e
      subst e
      cases hl
      exact ⟨_, A.f_InvalidAddress.at, A.f_InvalidAddress.ex A.kf, kit_blt (by decide +kernel) A.sf.s_InvalidAddress_ValueError⟩
    rw [List.lookup_cons] at hl
    split at hl
    · rename_i e
      have e := beq_iff_eq.mp e
      subst e
      cases hl
      exact ⟨_, A.f_InvalidOperation.at, A.f_InvalidOperation.ex A.kf, kit_blt (by decide +kernel) A.sf.s_InvalidOperation_ValueError⟩
    rw [List.lookup_cons] at hl
    split at hl
    · rename_i e
      have e := beq_iff_eq.mp e
      subst e
      cases hl
      exact ⟨_, A.f_InvalidEdit.at, A.f_InvalidEdit.ex A.kf, kit_blt (by decide +kernel) A.sf.s_InvalidEdit_ValueError⟩
    rw [List.lookup_cons] at hl
    split at hl
    · rename_i e
      have e := beq_iff_eq.mp e
      subst e
      cases hl
      exact ⟨_, A.f_ParseError.at, A.f_ParseError.ex A.kf, kit_blt (by decide +kernel) A.sf.s_ParseError_ValueError⟩
    rw [List.lookup_cons] at hl
    split at hl
    · rename_i e
      have e := beq_iff_eq.mp e
      subst e
      cases hl
      exact ⟨_, A.f_InvalidCommand.at, A.f_InvalidCommand.ex A.kf, kit_blt (by decide +kernel) A.sf.s_InvalidCommand_ValueError⟩
    cases hl
  rw [List.lookup_cons] at hy
  split at hy
  · rename_i e
    have e := beq_iff_eq.mp e
    subst e
    cases hy
    refine ⟨.type "IndexError", .ty "IndexError", .inr ⟨PySem.W.mg_none_of kin G b_IndexError, _, by kernel_rfl, rfl, rfl⟩, fun c b hl => ?_⟩
    unfold t_IndexError at hl
    rw [List.lookup_cons] at hl
    split at hl
    · rename_i e
      have e := beq_iff_eq.mp e
      subst e
      cases hl
      exact ⟨_, A.f_InvalidName.at, A.f_InvalidName.ex A.kf, kit_blt (by decide +kernel) A.sf.s_InvalidName_IndexError⟩
    rw [List.lookup_cons] at hl
    split at hl
    · rename_i e
      have e := beq_iff_eq.mp e
      subst e
      cases hl
      exact ⟨_, A.f_InvalidTerm.at, A.f_InvalidTerm.ex A.kf, kit_blt (by decide +kernel) A.sf.s_InvalidTerm_IndexError⟩
    rw [List.lookup_cons] at hl
    split at hl
    · rename_i e
      have e := beq_iff_eq.mp e
      subst e
      cases hl
      exact ⟨_, A.f_InvalidGraph.at, A.f_InvalidGraph.ex A.kf, kit_blt (by decide +kernel) A.sf.s_InvalidGraph_IndexError⟩
    rw [List.lookup_cons] at hl
    split at hl
    · rename_i e
      have e := beq_iff_eq.mp e
      subst e
      cases hl
      exact ⟨_, A.f_InvalidFamily.at, A.f_InvalidFamily.ex A.kf, kit_blt (by decide +kernel) A.sf.s_InvalidFamily_IndexError⟩
    rw [List.lookup_cons] at hl
    split at hl
    · rename_i e
      have e := beq_iff_eq.mp e
      subst e
      cases hl
      exact ⟨_, A.f_InvalidAddress.at, A.f_InvalidAddress.ex A.kf, kit_blt (by decide +kernel) A.sf.s_InvalidAddress_IndexError⟩
    rw [List.lookup_cons] at hl
    split at hl
    · rename_i e
      have e := beq_iff_eq.mp e
      subst e
      cases hl
      exact ⟨_, A.f_InvalidOperation.at, A.f_InvalidOperation.ex A.kf, kit_blt (by decide +kernel) A.sf.s_InvalidOperation_IndexError⟩
    rw [List.lookup_cons] at hl
    split at hl
    · rename_i e
      have e := beq_iff_eq.mp e
      subst e
      cases hl
      exact ⟨_, A.f_InvalidEdit.at, A.f_InvalidEdit.ex A.kf, kit_blt (by decide +kernel) A.sf.s_InvalidEdit_IndexError⟩
    rw [List.lookup_cons] at hl
    split at hl
    · rename_i e
      have e := beq_iff_eq.mp e
      subst e
      cases hl
      exact ⟨_, A.f_ParseError.at, A.f_ParseError.ex A.kf, kit_blt (by decide +kernel) A.sf.s_ParseError_IndexError⟩
    rw [List.lookup_cons] at hl
    split at hl
    · rename_i e
      have e := beq_iff_eq.mp e
      subst e
      cases hl
      exact ⟨_, A.f_InvalidCommand.at, A.f_InvalidCommand.ex A.kf, kit_blt (by decide +kernel) A.sf.s_InvalidCommand_IndexError⟩
    rw [List.lookup_cons] at hl
    split at hl
    · rename_i e
      have e := beq_iff_eq.mp e
      subst e
      cases hl
      exact ⟨_, A.f_InvalidNumber.at, A.f_InvalidNumber.ex A.kf, kit_blt (by decide +kernel) A.sf.s_InvalidNumber_IndexError⟩
    cases hl
  rw [List.lookup_cons] at hy
  split at hy
  · rename_i e
    have e := beq_iff_eq.mp e
    subst e
    cases hy
    refine ⟨.type "LookupError", .ty "LookupError", .inr ⟨PySem.W.mg_none_of kin G b_LookupError, _, by kernel_rfl, rfl, rfl⟩, fun c b hl => ?_⟩
    unfold t_LookupError at hl
    rw [List.lookup_cons] at hl
    split at hl
    · rename_i e
      have e := beq_iff_eq.mp e
      subst e
      cases hl
      exact ⟨_, A.f_InvalidName.at, A.f_InvalidName.ex A.kf, kit_blt (by decide +kernel) A.sf.s_InvalidName_LookupError⟩
    rw [List.lookup_cons] at hl
    split at hl
    · rename_i e
      have e := beq_iff_eq.mp e
      subst e
      cases hl
      exact ⟨_, A.f_InvalidTerm.at, A.f_InvalidTerm.ex A.kf, kit_blt (by decide +kernel) A.sf.s_InvalidTerm_LookupError⟩
    rw [List.lookup_cons] at hl
    split at hl
    · rename_i e
      have e := beq_iff_eq.mp e
      subst e
      cases hl
      exact ⟨_, A.f_InvalidGraph.at, A.f_InvalidGraph.ex A.kf, kit_blt (by decide +kernel) A.sf.s_InvalidGraph_LookupError⟩
    rw [List.lookup_cons] at hl
    split at hl
    · rename_i e
      have e := beq_iff_eq.mp e
      subst e
      cases hl
      exact ⟨_, A.f_InvalidFamily.at, A.f_InvalidFamily.ex A.kf, kit_blt (by decide +kernel) A.sf.s_InvalidFamily_LookupError⟩
    rw [List.lookup_cons] at hl
    split at hl
    · rename_i e
      have e := beq_iff_eq.mp e
      subst e
      cases hl
      exact ⟨_, A.f_InvalidAddress.at, A.f_InvalidAddress.ex A.kf, kit_blt (by decide +kernel) A.sf.s_InvalidAddress_LookupError⟩
    rw [List.lookup_cons] at hl
    split at hl
    · rename_i e
      have e := beq_iff_eq.mp e
      subst e
      cases hl
      exact ⟨_, A.f_InvalidOperation.at, A.f_InvalidOperation.ex A.kf, kit_blt (by decide +kernel) A.sf.s_InvalidOperation_LookupError⟩
    rw [List.lookup_cons] at hl
    split at hl
    · rename_i e
      have e := beq_iff_eq.mp e
      subst e
      cases hl
      exact ⟨_, A.f_InvalidEdit.at, A.f_InvalidEdit.ex A.kf, kit_blt (by decide +kernel) A.sf.s_InvalidEdit_LookupError⟩
    rw [List.lookup_cons] at hl
    split at hl
    · rename_i e
      have e := beq_iff_eq.mp e
      subst e
      cases hl
      exact ⟨_, A.f_ParseError.at, A.f_ParseError.ex A.kf, kit_blt (by decide +kernel) A.sf.s_ParseError_LookupError⟩
    rw [List.lookup_cons] at hl
    split at hl
    · rename_i e
      have e := beq_iff_eq.mp e
      subst e
      cases hl
      exact ⟨_, A.f_InvalidCommand.at, A.f_InvalidCommand.ex A.kf, kit_blt (by decide +kernel) A.sf.s_InvalidCommand_LookupError⟩
    rw [List.lookup_cons] at hl
    split at hl
    · rename_i e
      have e := beq_iff_eq.mp e
      subst e
      cases hl
      exact ⟨_, A.f_NothingToUndo.at, A.f_NothingToUndo.ex A.kf, kit_blt (by decide +kernel) A.sf.s_NothingToUndo_LookupError⟩
    cases hl
  rw [List.lookup_cons] at hy
  split at hy
  · rename_i e
    have e := beq_iff_eq.mp e
    subst e
    cases hy
    refine ⟨.type "KeyError", .ty "KeyError", .inr ⟨PySem.W.mg_none_of kin G b_KeyError, _, by kernel_rfl, rfl, rfl⟩, fun c b hl => ?_⟩
    unfold t_KeyError at hl
    rw [List.lookup_cons] at hl
    split at hl
    · rename_i e
      have e := beq_iff_eq.mp e
      subst e
      cases hl
      exact ⟨_, A.f_UnknownName.at, A.f_UnknownName.ex A.kf, kit_blt (by decide +kernel) A.sf.s_UnknownName_KeyError⟩
    cases hl
  rw [List.lookup_cons] at hy
  split at hy
  · rename_i e
    have e := beq_iff_eq.mp e
    subst e
    cases hy
    refine ⟨.type "OverflowError", .ty "OverflowError", .inr ⟨PySem.W.mg_none_of kin G b_OverflowError, _, by kernel_rfl, rfl, rfl⟩, fun c b hl => ?_⟩
    unfold t_OverflowError at hl
    rw [List.lookup_cons] at hl
    split at hl
    · rename_i e
      have e := beq_iff_eq.mp e
      subst e
      cases hl
      exact ⟨_, A.f_TooMany.at, A.f_TooMany.ex A.kf, kit_blt (by decide +kernel) A.sf.s_TooMany_OverflowError⟩
    cases hl
  rw [List.lookup_cons] at hy
  split at hy
  · rename_i e
    have e := beq_iff_eq.mp e
    subst e
    cases hy
    refine ⟨.type "RuntimeError", .ty "RuntimeError", .inr ⟨PySem.W.mg_none_of kin G b_RuntimeError, _, by kernel_rfl, rfl, rfl⟩, fun c b hl => ?_⟩
    unfold t_RuntimeError at hl
    rw [List.lookup_cons] at hl
    split at hl
    · rename_i e
      have e := beq_iff_eq.mp e
      subst e
      cases hl
      exact ⟨_, A.f_Chained.at, A.f_Chained.ex A.kf, kit_blt (by decide +kernel) A.sf.s_Chained_RuntimeError⟩
    cases hl
  rw [List.lookup_cons] at hy
  split at hy
  · rename_i e
    have e := beq_iff_eq.mp e
    subst e
    cases hy
    refine ⟨.ref C10, .ref C10, .inl ⟨PySem.W.mg_of kin G A.f_InvalidNumber.ns, _, rfl, rfl⟩, fun c b hl => ?_⟩
    unfold t_InvalidNumber at hl
    rw [List.lookup_cons] at hl
    split at hl
    · rename_i e
      have e := beq_iff_eq.mp e
      subst e
      cases hl
      exact ⟨_, A.f_InvalidNumber.at, A.f_InvalidNumber.ex A.kf, kit_own A.f_InvalidNumber A.f_InvalidNumber A.sf.s_InvalidNumber_InvalidNumber⟩
    rw [List.lookup_cons] at hl
    split at hl
    · rename_i e
      have e := beq_iff_eq.mp e
      subst e
      cases hl
      exact ⟨_, A.f_UnknownName.at, A.f_UnknownName.ex A.kf, kit_own A.f_UnknownName A.f_InvalidNumber A.sf.s_UnknownName_InvalidNumber⟩
    rw [List.lookup_cons] at hl
    split at hl
    · rename_i e
      have e := beq_iff_eq.mp e
      subst e
      cases hl
      exact ⟨_, A.f_NothingToUndo.at, A.f_NothingToUndo.ex A.kf, kit_own A.f_NothingToUndo A.f_InvalidNumber A.sf.s_NothingToUndo_InvalidNumber⟩
    cases hl
  rw [List.lookup_cons] at hy
  split at hy
  · rename_i e
    have e := beq_iff_eq.mp e
    subst e
    cases hy
    refine ⟨.ref C1, .ref C1, .inl ⟨PySem.W.mg_of kin G A.f_InvalidName.ns, _, rfl, rfl⟩, fun c b hl => ?_⟩
    unfold t_InvalidName at hl
    rw [List.lookup_cons] at hl
    split at hl
    · rename_i e
      have e := beq_iff_eq.mp e
      subst e
      cases hl
      exact ⟨_, A.f_LetError.at, A.f_LetError.ex A.kf, kit_own A.f_LetError A.f_InvalidName A.sf.s_LetError_InvalidName⟩
    rw [List.lookup_cons] at hl
    split at hl
    · rename_i e
      have e := beq_iff_eq.mp e
      subst e
      cases hl
      exact ⟨_, A.f_InvalidName.at, A.f_InvalidName.ex A.kf, kit_own A.f_InvalidName A.f_InvalidName A.sf.s_InvalidName_InvalidName⟩
    rw [List.lookup_cons] at hl
    split at hl
    · rename_i e
      have e := beq_iff_eq.mp e
      subst e
      cases hl
      exact ⟨_, A.f_InvalidTerm.at, A.f_InvalidTerm.ex A.kf, kit_own A.f_InvalidTerm A.f_InvalidName A.sf.s_InvalidTerm_InvalidName⟩
    rw [List.lookup_cons] at hl
    split at hl
    · rename_i e
      have e := beq_iff_eq.mp e
      subst e
      cases hl
      exact ⟨_, A.f_InvalidGraph.at, A.f_InvalidGraph.ex A.kf, kit_own A.f_InvalidGraph A.f_InvalidName A.sf.s_InvalidGraph_InvalidName⟩
    rw [List.lookup_cons] at hl
    split at hl
    · rename_i e
      have e := beq_iff_eq.mp e
      subst e
      cases hl
      exact ⟨_, A.f_InvalidFamily.at, A.f_InvalidFamily.ex A.kf, kit_own A.f_InvalidFamily A.f_InvalidName A.sf.s_InvalidFamily_InvalidName⟩
    rw [List.lookup_cons] at hl
    split at hl
    · rename_i e
      have e := beq_iff_eq.mp e
      subst e
      cases hl
      exact ⟨_, A.f_InvalidAddress.at, A.f_InvalidAddress.ex A.kf, kit_own A.f_InvalidAddress A.f_InvalidName A.sf.s_InvalidAddress_InvalidName⟩
    rw [List.lookup_cons] at hl
    split at hl
    · rename_i e
      have e := beq_iff_eq.mp e
      subst e
      cases hl
      exact ⟨_, A.f_InvalidOperation.at, A.f_InvalidOperation.ex A.kf, kit_own A.f_InvalidOperation A.f_InvalidName A.sf.s_InvalidOperation_InvalidName⟩
    rw [List.lookup_cons] at hl
    split at hl
    · rename_i e
      have e := beq_iff_eq.mp e
      subst e
      cases hl
      exact ⟨_, A.f_InvalidEdit.at, A.f_InvalidEdit.ex A.kf, kit_own A.f_InvalidEdit A.f_InvalidName A.sf.s_InvalidEdit_InvalidName⟩
    rw [List.lookup_cons] at hl
    split at hl
    · rename_i e
      have e := beq_iff_eq.mp e
      subst e
      cases hl
      exact ⟨_, A.f_ParseError.at, A.f_ParseError.ex A.kf, kit_own A.f_ParseError A.f_InvalidName A.sf.s_ParseError_InvalidName⟩
    rw [List.lookup_cons] at hl
    split at hl
    · rename_i e
      have e := beq_iff_eq.mp e
      subst e
      cases hl
      exact ⟨_, A.f_InvalidCommand.at, A.f_InvalidCommand.ex A.kf, kit_own A.f_InvalidCommand A.f_InvalidName A.sf.s_InvalidCommand_InvalidName⟩
    cases hl
  rw [List.lookup_cons] at hy
  split at hy
  · rename_i e
    have e := beq_iff_eq.mp e
    subst e
    cases hy
    refine ⟨.ref C2, .ref C2, .inl ⟨PySem.W.mg_of kin G A.f_InvalidTerm.ns, _, rfl, rfl⟩, fun c b hl => ?_⟩
    unfold t_InvalidTerm at hl
    rw [List.lookup_cons] at hl
    split at hl
    · rename_i e
      have e := beq_iff_eq.mp e
      subst e
      cases hl
      exact ⟨_, A.f_LetError.at, A.f_LetError.ex A.kf, kit_own A.f_LetError A.f_InvalidTerm A.sf.s_LetError_InvalidTerm⟩
    rw [List.lookup_cons] at hl
    split at hl
    · rename_i e
      have e := beq_iff_eq.mp e
      subst e
      cases hl
      exact ⟨_, A.f_InvalidName.at, A.f_InvalidName.ex A.kf, kit_own A.f_InvalidName A.f_InvalidTerm A.sf.s_InvalidName_InvalidTerm⟩
    rw [List.lookup_cons] at hl
    split at hl
    · rename_i e
      have e := beq_iff_eq.mp e
      subst e
      cases hl
      exact ⟨_, A.f_InvalidTerm.at, A.f_InvalidTerm.ex A.kf, kit_own A.f_InvalidTerm A.f_InvalidTerm A.sf.s_InvalidTerm_InvalidTerm⟩
    rw [List.lookup_cons] at hl
    split at hl
    · rename_i e
      have e := beq_iff_eq.mp e
      subst e
      cases hl
      exact ⟨_, A.f_InvalidGraph.at, A.f_InvalidGraph.ex A.kf, kit_own A.f_InvalidGraph A.f_InvalidTerm A.sf.s_InvalidGraph_InvalidTerm⟩
    rw [List.lookup_cons] at hl
    split at hl
    · rename_i e
      have e := beq_iff_eq.mp e
      subst e
      cases hl
      exact ⟨_, A.f_InvalidFamily.at, A.f_InvalidFamily.ex A.kf, kit_own A.f_InvalidFamily A.f_InvalidTerm A.sf.s_InvalidFamily_InvalidTerm⟩
    rw [List.lookup_cons] at hl
    split at hl
    · rename_i e
      have e := beq_iff_eq.mp e
      subst e
      cases hl
      exact ⟨_, A.f_InvalidAddress.at, A.f_InvalidAddress.ex A.kf, kit_own A.f_InvalidAddress A.f_InvalidTerm A.sf.s_InvalidAddress_InvalidTerm⟩
    rw [List.lookup_cons] at hl
    split at hl
    · rename_i e
      have e := beq_iff_eq.mp e
      subst e
      cases hl
      exact ⟨_, A.f_InvalidOperation.at, A.f_InvalidOperation.ex A.kf, kit_own A.f_InvalidOperation A.f_InvalidTerm A.sf.s_InvalidOperation_InvalidTerm⟩
    rw [List.lookup_cons] at hl
    split at hl
    · rename_i e
      have e := beq_iff_eq.mp e
      subst e
      cases hl
      exact ⟨_, A.f_InvalidEdit.at, A.f_InvalidEdit.ex A.kf, kit_own A.f_InvalidEdit A.f_InvalidTerm A.sf.s_InvalidEdit_InvalidTerm⟩
    rw [List.lookup_cons] at hl
    split at hl
    · rename_i e
      have e := beq_iff_eq.mp e
      subst e
      cases hl
      exact ⟨_, A.f_ParseError.at, A.f_ParseError.ex A.kf, kit_own A.f_ParseError A.f_InvalidTerm A.sf.s_ParseError_InvalidTerm⟩
    rw [List.lookup_cons] at hl
    split at hl
    · rename_i e
      have e := beq_iff_eq.mp e
      subst e
      cases hl
      exact ⟨_, A.f_InvalidCommand.at, A.f_InvalidCommand.ex A.kf, kit_own A.f_InvalidCommand A.f_InvalidTerm A.sf.s_InvalidCommand_InvalidTerm⟩
    cases hl
  rw [List.lookup_cons] at hy
  split at hy
  · rename_i e
    have e := beq_iff_eq.mp e
    subst e
    cases hy
    refine ⟨.ref C3, .ref C3, .inl ⟨PySem.W.mg_of kin G A.f_InvalidGraph.ns, _, rfl, rfl⟩, fun c b hl => ?_⟩
    unfold t_InvalidGraph at hl
    rw [List.lookup_cons] at hl
    split at hl
    · rename_i e
      have e := beq_iff_eq.mp e
      subst e
      cases hl
      exact ⟨_, A.f_LetError.at, A.f_LetError.ex A.kf, kit_own A.f_LetError A.f_InvalidGraph A.sf.s_LetError_InvalidGraph⟩
    rw [List.lookup_cons] at hl
    split at hl
    · rename_i e
      have e := beq_iff_eq.mp e
      subst e
      cases hl
      exact ⟨_, A.f_InvalidName.at, A.f_InvalidName.ex A.kf, kit_own A.f_InvalidName A.f_InvalidGraph A.sf.s_InvalidName_InvalidGraph⟩
    rw [List.lookup_cons] at hl
    split at hl
    · rename_i e
      have e := beq_iff_eq.mp e
      subst e
      cases hl
      exact ⟨_, A.f_InvalidTerm.at, A.f_InvalidTerm.ex A.kf, kit_own A.f_InvalidTerm A.f_InvalidGraph A.sf.s_InvalidTerm_InvalidGraph⟩
    rw [List.lookup_cons] at hl
    split at hl
    · rename_i e
      have e := beq_iff_eq.mp e
      subst e
      cases hl
      exact ⟨_, A.f_InvalidGraph.at, A.f_InvalidGraph.ex A.kf, kit_own A.f_InvalidGraph A.f_InvalidGraph A.sf.s_InvalidGraph_InvalidGraph⟩
    rw [List.lookup_cons] at hl
    split at hl
    · rename_i e
      have e := beq_iff_eq.mp e
      subst e
      cases hl
      exact ⟨_, A.f_InvalidFamily.at, A.f_InvalidFamily.ex A.kf, kit_own A.f_InvalidFamily A.f_InvalidGraph A.sf.s_InvalidFamily_InvalidGraph⟩
    rw [List.lookup_cons] at hl
    split at hl
    · rename_i e
      have e := beq_iff_eq.mp e
      subst e
      cases hl
      exact ⟨_, A.f_InvalidAddress.at, A.f_InvalidAddress.ex A.kf, kit_own A.f_InvalidAddress A.f_InvalidGraph A.sf.s_InvalidAddress_InvalidGraph⟩
    rw [List.lookup_cons] at hl
    split at hl
    · rename_i e
      have e := beq_iff_eq.mp e
      subst e
      cases hl
      exact ⟨_, A.f_InvalidOperation.at, A.f_InvalidOperation.ex A.kf, kit_own A.f_InvalidOperation A.f_InvalidGraph A.sf.s_InvalidOperation_InvalidGraph⟩
    rw [List.lookup_cons] at hl
    split at hl
    · rename_i e
      have e := beq_iff_eq.mp e
      subst e
      cases hl
      exact ⟨_, A.f_InvalidEdit.at, A.f_InvalidEdit.ex A.kf, kit_own A.f_InvalidEdit A.f_InvalidGraph A.sf.s_InvalidEdit_InvalidGraph⟩
    rw [List.lookup_cons] at hl
    split at hl
    · rename_i e
      have e := beq_iff_eq.mp e
      subst e
      cases hl
      exact ⟨_, A.f_ParseError.at, A.f_ParseError.ex A.kf, kit_own A.f_ParseError A.f_InvalidGraph A.sf.s_ParseError_InvalidGraph⟩
    rw [List.lookup_cons] at hl
    split at hl
    · rename_i e
      have e := beq_iff_eq.mp e
      subst e
      cases hl
      exact ⟨_, A.f_InvalidCommand.at, A.f_InvalidCommand.ex A.kf, kit_own A.f_InvalidCommand A.f_InvalidGraph A.sf.s_InvalidCommand_InvalidGraph⟩
    cases hl
  rw [List.lookup_cons] at hy
  split at hy
  · rename_i e
    have e := beq_iff_eq.mp e
    subst e
    cases hy
    refine ⟨.ref C4, .ref C4, .inl ⟨PySem.W.mg_of kin G A.f_InvalidFamily.ns, _, rfl, rfl⟩, fun c b hl => ?_⟩
    unfold t_InvalidFamily at hl
    rw [List.lookup_cons] at hl
    split at hl
    · rename_i e
      have e := beq_iff_eq.mp e
      subst e
      cases hl
      exact ⟨_, A.f_LetError.at, A.f_LetError.ex A.kf, kit_own A.f_LetError A.f_InvalidFamily A.sf.s_LetError_InvalidFamily⟩
    rw [List.lookup_cons] at hl
    split at hl
    · rename_i e
      have e := beq_iff_eq.mp e
      subst e
      cases hl
      exact ⟨_, A.f_InvalidName.at, A.f_InvalidName.ex A.kf, kit_own A.f_InvalidName A.f_InvalidFamily A.sf.s_InvalidName_InvalidFamily⟩
    rw [List.lookup_cons] at hl
    split at hl
    · rename_i e
      have e := beq_iff_eq.mp e
      subst e
      cases hl
      exact ⟨_, A.f_InvalidTerm.at, A.f_InvalidTerm.ex A.kf, kit_own A.f_InvalidTerm A.f_InvalidFamily A.sf.s_InvalidTerm_InvalidFamily⟩
    rw [List.lookup_cons] at hl
    split at hl
    · rename_i e
      have e := beq_iff_eq.mp e
      subst e
      cases hl
      exact ⟨_, A.f_InvalidGraph.at, A.f_InvalidGraph.ex A.kf, kit_own A.f_InvalidGraph A.f_InvalidFamily A.sf.s_InvalidGraph_InvalidFamily⟩
    rw [List.lookup_cons] at hl
    split at hl
    · rename_i e
      have e := beq_iff_eq.mp e
      subst e
      cases hl
      exact ⟨_, A.f_InvalidFamily.at, A.f_InvalidFamily.ex A.kf, kit_own A.f_InvalidFamily A.f_InvalidFamily A.sf.s_InvalidFamily_InvalidFamily⟩
    rw [List.lookup_cons] at hl
    split at hl
    · rename_i e
      have e := beq_iff_eq.mp e
      subst e
      cases hl
      exact ⟨_, A.f_InvalidAddress.at, A.f_InvalidAddress.ex A.kf, kit_own A.f_InvalidAddress A.f_InvalidFamily A.sf.s_InvalidAddress_InvalidFamily⟩
    rw [List.lookup_cons] at hl
    split at hl
    · rename_i e
      have e := beq_iff_eq.mp e
      subst e
      cases hl
      exact ⟨_, A.f_InvalidOperation.at, A.f_InvalidOperation.ex A.kf, kit_own A.f_InvalidOperation A.f_InvalidFamily A.sf.s_InvalidOperation_InvalidFamily⟩
    rw [List.lookup_cons] at hl
    split at hl
    · rename_i e
      have e := beq_iff_eq.mp e
      subst e
      cases hl
      exact ⟨_, A.f_InvalidEdit.at, A.f_InvalidEdit.ex A.kf, kit_own A.f_InvalidEdit A.f_InvalidFamily A.sf.s_InvalidEdit_InvalidFamily⟩
    rw [List.lookup_cons] at hl
    split at hl
    · rename_i e
      have e := beq_iff_eq.mp e
      subst e
      cases hl
      exact ⟨_, A.f_ParseError.at, A.f_ParseError.ex A.kf, kit_own A.f_ParseError A.f_InvalidFamily A.sf.s_ParseError_InvalidFamily⟩
    rw [List.lookup_cons] at hl
    split at hl
    · rename_i e
      have e := beq_iff_eq.mp e
      subst e
      cases hl
      exact ⟨_, A.f_InvalidCommand.at, A.f_InvalidCommand.ex A.kf, kit_own A.f_InvalidCommand A.f_InvalidFamily A.sf.s_InvalidCommand_InvalidFamily⟩
    cases hl
  rw [List.lookup_cons] at hy
  split at hy
  · rename_i e
    have e := beq_iff_eq.mp e
    subst e
    cases hy
    refine ⟨.ref C5, .ref C5, .inl ⟨PySem.W.mg_of kin G A.f_InvalidAddress.ns, _, rfl, rfl⟩, fun c b hl => ?_⟩
    unfold t_InvalidAddress at hl
    rw [List.lookup_cons] at hl
    split at hl
    · rename_i e
      have e := beq_iff_eq.mp e
      subst e
      cases hl
      exact ⟨_, A.f_LetError.at, A.f_LetError.ex A.kf, kit_own A.f_LetError A.f_InvalidAddress A.sf.s_LetError_InvalidAddress⟩
    rw [List.lookup_cons] at hl
    split at hl
    · rename_i e
      have e := beq_iff_eq.mp e
      subst e
      cases hl
      exact ⟨_, A.f_InvalidName.at, A.f_InvalidName.ex A.kf, kit_own A.f_InvalidName A.f_InvalidAddress A.sf.s_InvalidName_InvalidAddress⟩
    rw [List.lookup_cons] at hl
    split at hl
    · rename_i e
      have e := beq_iff_eq.mp e
      subst e
      cases hl
      exact ⟨_, A.f_InvalidTerm.at, A.f_InvalidTerm.ex A.kf, kit_own A.f_InvalidTerm A.f_InvalidAddress A.sf.s_InvalidTerm_InvalidAddress⟩
    rw [List.lookup_cons] at hl
    split at hl
    · rename_i e
      have e := beq_iff_eq.mp e
      subst e
      cases hl
      exact ⟨_, A.f_InvalidGraph.at, A.f_InvalidGraph.ex A.kf, kit_own A.f_InvalidGraph A.f_InvalidAddress A.sf.s_InvalidGraph_InvalidAddress⟩
    rw [List.lookup_cons] at hl
    split at hl
    · rename_i e
      have e := beq_iff_eq.mp e
      subst e
      cases hl
      exact ⟨_, A.f_InvalidFamily.at, A.f_InvalidFamily.ex A.kf, kit_own A.f_InvalidFamily A.f_InvalidAddress A.sf.s_InvalidFamily_InvalidAddress⟩
    rw [List.lookup_cons] at hl
    split at hl
    · rename_i e
      have e := beq_iff_eq.mp e
      subst e
      cases hl
      exact ⟨_, A.f_InvalidAddress.at, A.f_InvalidAddress.ex A.kf, kit_own A.f_InvalidAddress A.f_InvalidAddress A.sf.s_InvalidAddress_InvalidAddress⟩
    rw [List.lookup_cons] at hl
    split at hl
    · rename_i e
      have e := beq_iff_eq.mp e
      subst e
      cases hl
      exact ⟨_, A.f_InvalidOperation.at, A.f_InvalidOperation.ex A.kf, kit_own A.f_InvalidOperation A.f_InvalidAddress A.sf.s_InvalidOperation_InvalidAddress⟩
    rw [List.lookup_cons] at hl
    split at hl
    · rename_i e
      have e := beq_iff_eq.mp e
      subst e
      cases hl
      exact ⟨_, A.f_InvalidEdit.at, A.f_InvalidEdit.ex A.kf, kit_own A.f_InvalidEdit A.f_InvalidAddress A.sf.s_InvalidEdit_InvalidAddress⟩
    rw [List.lookup_cons] at hl
    split at hl
    · rename_i e
      have e := beq_iff_eq.mp e
      subst e
      cases hl
      exact ⟨_, A.f_ParseError.at, A.f_ParseError.ex A.kf, kit_own A.f_ParseError A.f_InvalidAddress A.sf.s_ParseError_InvalidAddress⟩
    rw [List.lookup_cons] at hl
    split at hl
    · rename_i e
      have e := beq_iff_eq.mp e
      subst e
      cases hl
      exact ⟨_, A.f_InvalidCommand.at, A.f_InvalidCommand.ex A.kf, kit_own A.f_InvalidCommand A.f_InvalidAddress A.sf.s_InvalidCommand_InvalidAddress⟩
    cases hl
  rw [List.lookup_cons] at hy
  split at hy
  · rename_i e
    have e := beq_iff_eq.mp e
    subst e
    cases hy
    refine ⟨.ref C6, .ref C6, .inl ⟨PySem.W.mg_of kin G A.f_InvalidOperation.ns, _, rfl, rfl⟩, fun c b hl => ?_⟩
    unfold t_InvalidOperation at hl
    rw [List.lookup_cons] at hl
    split at hl
    · rename_i e
      have e := beq_iff_eq.mp e
      subst e
      cases hl
      exact ⟨_, A.f_LetError.at, A.f_LetError.ex A.kf, kit_own A.f_LetError A.f_InvalidOperation A.sf.s_LetError_InvalidOperation⟩
    rw [List.lookup_cons] at hl
    split at hl
    · rename_i e
      have e := beq_iff_eq.mp e
      subst e
      cases hl
      exact ⟨_, A.f_InvalidName.at, A.f_InvalidName.ex A.kf, kit_own A.f_InvalidName A.f_InvalidOperation A.sf.s_InvalidName_InvalidOperation⟩
    rw [List.lookup_cons] at hl
    split at hl
    · rename_i e
      have e := beq_iff_eq.mp e
      subst e
      cases hl
      exact ⟨_, A.f_InvalidTerm.at, A.f_InvalidTerm.ex A.kf, kit_own A.f_InvalidTerm A.f_InvalidOperation A.sf.s_InvalidTerm_InvalidOperation⟩
    rw [List.lookup_cons] at hl
    split at hl
    · rename_i e
      have e := beq_iff_eq.mp e
      subst e
      cases hl
      exact ⟨_, A.f_InvalidGraph.at, A.f_InvalidGraph.ex A.kf, kit_own A.f_InvalidGraph A.f_InvalidOperation A.sf.s_InvalidGraph_InvalidOperation⟩
    rw [List.lookup_cons] at hl
    split at hl
    · rename_i e
      have e := beq_iff_eq.mp e
      subst e
      cases hl
      exact ⟨_, A.f_InvalidFamily.at, A.f_InvalidFamily.ex A.kf, kit_own A.f_InvalidFamily A.f_InvalidOperation A.sf.s_InvalidFamily_InvalidOperation⟩
    rw [List.lookup_cons] at hl
    split at hl
    · rename_i e
      have e := beq_iff_eq.mp e
      subst e
      cases hl
      exact ⟨_, A.f_InvalidAddress.at, A.f_InvalidAddress.ex A.kf, kit_own A.f_InvalidAddress A.f_InvalidOperation A.sf.s_InvalidAddress_InvalidOperation⟩
    rw [List.lookup_cons] at hl
    split at hl
    · rename_i e
      have e := beq_iff_eq.mp e
      subst e
      cases hl
      exact ⟨_, A.f_InvalidOperation.at, A.f_InvalidOperation.ex A.kf, kit_own A.f_InvalidOperation A.f_InvalidOperation A.sf.s_InvalidOperation_InvalidOperation⟩
    rw [List.lookup_cons] at hl
    split at hl
    · rename_i e
      have e := beq_iff_eq.mp e
      subst e
      cases hl
      exact ⟨_, A.f_InvalidEdit.at, A.f_InvalidEdit.ex A.kf, kit_own A.f_InvalidEdit A.f_InvalidOperation A.sf.s_InvalidEdit_InvalidOperation⟩
    rw [List.lookup_cons] at hl
    split at hl
    · rename_i e
      have e := beq_iff_eq.mp e
      subst e
      cases hl
      exact ⟨_, A.f_ParseError.at, A.f_ParseError.ex A.kf, kit_own A.f_ParseError A.f_InvalidOperation A.sf.s_ParseError_InvalidOperation⟩
    rw [List.lookup_cons] at hl
    split at hl
    · rename_i e
      have e := beq_iff_eq.mp e
      subst e
      cases hl
      exact ⟨_, A.f_InvalidCommand.at, A.f_InvalidCommand.ex A.kf, kit_own A.f_InvalidCommand A.f_InvalidOperation A.sf.s_InvalidCommand_InvalidOperation⟩
    cases hl
  rw [List.lookup_cons] at hy
  split at hy
  · rename_i e
    have e := beq_iff_eq.mp e
    subst e
    cases hy
    refine ⟨.ref C7, .ref C7, .inl ⟨PySem.W.mg_of kin G A.f_InvalidEdit.ns, _, rfl, rfl⟩, fun c b hl => ?_⟩
    unfold t_InvalidEdit at hl
    rw [List.lookup_cons] at hl
    split at hl
    · rename_i e
      have e := beq_iff_eq.mp e
      subst e
      cases hl
      exact ⟨_, A.f_LetError.at, A.f_LetError.ex A.kf, kit_own A.f_LetError A.f_InvalidEdit A.sf.s_LetError_InvalidEdit⟩
    rw [List.lookup_cons] at hl
    split at hl
    · rename_i e
      have e := beq_iff_eq.mp e
      subst e
      cases hl
      exact ⟨_, A.f_InvalidName.at, A.f_InvalidName.ex A.kf, kit_own A.f_InvalidName A.f_InvalidEdit A.sf.s_InvalidName_InvalidEdit⟩
    rw [List.lookup_cons] at hl
    split at hl
    · rename_i e
      have e := beq_iff_eq.mp e
      subst e
      cases hl
      exact ⟨_, A.f_InvalidTerm.at, A.f_InvalidTerm.ex A.kf, kit_own A.f_InvalidTerm A.f_InvalidEdit A.sf.s_InvalidTerm_InvalidEdit⟩
    rw [List.lookup_cons] at hl
    split at hl
    · rename_i e
      have e := beq_iff_eq.mp e
      subst e
      cases hl
      exact ⟨_, A.f_InvalidGraph.at, A.f_InvalidGraph.ex A.kf, kit_own A.f_InvalidGraph A.f_InvalidEdit A.sf.s_InvalidGraph_InvalidEdit⟩
    rw [List.lookup_cons] at hl
    split at hl
    · rename_i e
      have e := beq_iff_eq.mp e
      subst e
      cases hl
      exact ⟨_, A.f_InvalidFamily.at, A.f_InvalidFamily.ex A.kf, kit_own A.f_InvalidFamily A.f_InvalidEdit A.sf.s_InvalidFamily_InvalidEdit⟩
    rw [List.lookup_cons] at hl
    split at hl
    · rename_i e
      have e := beq_iff_eq.mp e
      subst e
      cases hl
      exact ⟨_, A.f_InvalidAddress.at, A.f_InvalidAddress.ex A.kf, kit_own A.f_InvalidAddress A.f_InvalidEdit A.sf.s_InvalidAddress_InvalidEdit⟩
    rw [List.lookup_cons] at hl
    split at hl
    · rename_i e
      have e := beq_iff_eq.mp e
      subst e
      cases hl
      exact ⟨_, A.f_InvalidOperation.at, A.f_InvalidOperation.ex A.kf, kit_own A.f_InvalidOperation A.f_InvalidEdit A.sf.s_InvalidOperation_InvalidEdit⟩
    rw [List.lookup_cons] at hl
    split at hl
    · rename_i e
      have e := beq_iff_eq.mp e
      subst e
      cases hl
      exact ⟨_, A.f_InvalidEdit.at, A.f_InvalidEdit.ex A.kf, kit_own A.f_InvalidEdit A.f_InvalidEdit A.sf.s_InvalidEdit_InvalidEdit⟩
    rw [List.lookup_cons] at hl
    split at hl
    · rename_i e
      have e := beq_iff_eq.mp e
      subst e
      cases hl
      exact ⟨_, A.f_ParseError.at, A.f_ParseError.ex A.kf, kit_own A.f_ParseError A.f_InvalidEdit A.sf.s_ParseError_InvalidEdit⟩
    rw [List.lookup_cons] at hl
    split at hl
    · rename_i e
      have e := beq_iff_eq.mp e
      subst e
      cases hl
      exact ⟨_, A.f_InvalidCommand.at, A.f_InvalidCommand.ex A.kf, kit_own A.f_InvalidCommand A.f_InvalidEdit A.sf.s_InvalidCommand_InvalidEdit⟩
    cases hl
  rw [List.lookup_cons] at hy
  split at hy
  · rename_i e
    have e := beq_iff_eq.mp e
    subst e
    cases hy
    refine ⟨.ref C8, .ref C8, .inl ⟨PySem.W.mg_of kin G A.f_ParseError.ns, _, rfl, rfl⟩, fun c b hl => ?_⟩
    unfold t_ParseError at hl
    rw [List.lookup_cons] at hl
    split at hl
    · rename_i e
      have e := beq_iff_eq.mp e
      subst e
      cases hl
      exact ⟨_, A.f_LetError.at, A.f_LetError.ex A.kf, kit_own A.f_LetError A.f_ParseError A.sf.s_LetError_ParseError⟩
    rw [List.lookup_cons] at hl
    split at hl
    · rename_i e
      have e := beq_iff_eq.mp e
      subst e
      cases hl
      exact ⟨_, A.f_InvalidName.at, A.f_InvalidName.ex A.kf, kit_own A.f_InvalidName A.f_ParseError A.sf.s_InvalidName_ParseError⟩
    rw [List.lookup_cons] at hl
    split at hl
    · rename_i e
      have e := beq_iff_eq.mp e
      subst e
      cases hl
      exact ⟨_, A.f_InvalidTerm.at, A.f_InvalidTerm.ex A.kf, kit_own A.f_InvalidTerm A.f_ParseError A.sf.s_InvalidTerm_ParseError⟩
    rw [List.lookup_cons] at hl
    split at hl
    · rename_i e
      have e := beq_iff_eq.mp e
      subst e
      cases hl
      exact ⟨_, A.f_InvalidGraph.at, A.f_InvalidGraph.ex A.kf, kit_own A.f_InvalidGraph A.f_ParseError A.sf.s_InvalidGraph_ParseError⟩
    rw [List.lookup_cons] at hl
    split at hl
    · rename_i e
      have e := beq_iff_eq.mp e
      subst e
      cases hl
      exact ⟨_, A.f_InvalidFamily.at, A.f_InvalidFamily.ex A.kf, kit_own A.f_InvalidFamily A.f_ParseError A.sf.s_InvalidFamily_ParseError⟩
    rw [List.lookup_cons] at hl
    split at hl
    · rename_i e
      have e := beq_iff_eq.mp e
      subst e
      cases hl
      exact ⟨_, A.f_InvalidAddress.at, A.f_InvalidAddress.ex A.kf, kit_own A.f_InvalidAddress A.f_ParseError A.sf.s_InvalidAddress_ParseError⟩
    rw [List.lookup_cons] at hl
    split at hl
    · rename_i e
      have e := beq_iff_eq.mp e
      subst e
      cases hl
      exact ⟨_, A.f_InvalidOperation.at, A.f_InvalidOperation.ex A.kf, kit_own A.f_InvalidOperation A.f_ParseError A.sf.s_InvalidOperation_ParseError⟩
    rw [List.lookup_cons] at hl
    split at hl
    · rename_i e
      have e := beq_iff_eq.mp e
      subst e
      cases hl
      exact ⟨_, A.f_InvalidEdit.at, A.f_InvalidEdit.ex A.kf, kit_own A.f_InvalidEdit A.f_ParseError A.sf.s_InvalidEdit_ParseError⟩
    rw [List.lookup_cons] at hl
    split at hl
    · rename_i e
      have e := beq_iff_eq.mp e
      subst e
      cases hl
      exact ⟨_, A.f_ParseError.at, A.f_ParseError.ex A.kf, kit_own A.f_ParseError A.f_ParseError A.sf.s_ParseError_ParseError⟩
    rw [List.lookup_cons] at hl
    split at hl
    · rename_i e
      have e := beq_iff_eq.mp e
      subst e
      cases hl
      exact ⟨_, A.f_InvalidCommand.at, A.f_InvalidCommand.ex A.kf, kit_own A.f_InvalidCommand A.f_ParseError A.sf.s_InvalidCommand_ParseError⟩
    cases hl
  rw [List.lookup_cons] at hy
  split at hy
  · rename_i e
    have e := beq_iff_eq.mp e
    subst e
    cases hy
    refine ⟨.ref C9, .ref C9, .inl ⟨PySem.W.mg_of kin G A.f_InvalidCommand.ns, _, rfl, rfl⟩, fun c b hl => ?_⟩
    unfold t_InvalidCommand at hl
    rw [List.lookup_cons] at hl
    split at hl
    · rename_i e
      have e := beq_iff_eq.mp e
      subst e
      cases hl
      exact ⟨_, A.f_LetError.at, A.f_LetError.ex A.kf, kit_own A.f_LetError A.f_InvalidCommand A.sf.s_LetError_InvalidCommand⟩
    rw [List.lookup_cons] at hl
    split at hl
    · rename_i e
      have e := beq_iff_eq.mp e
      subst e
      cases hl
      exact ⟨_, A.f_InvalidName.at, A.f_InvalidName.ex A.kf, kit_own A.f_InvalidName A.f_InvalidCommand A.sf.s_InvalidName_InvalidCommand⟩
    rw [List.lookup_cons] at hl
    split at hl
    · rename_i e
      have e := beq_iff_eq.mp e
      subst e
      cases hl
      exact ⟨_, A.f_InvalidTerm.at, A.f_InvalidTerm.ex A.kf, kit_own A.f_InvalidTerm A.f_InvalidCommand A.sf.s_InvalidTerm_InvalidCommand⟩
    rw [List.lookup_cons] at hl
    split at hl
    · rename_i e
      have e := beq_iff_eq.mp e
      subst e
      cases hl
      exact ⟨_, A.f_InvalidGraph.at, A.f_InvalidGraph.ex A.kf, kit_own A.f_InvalidGraph A.f_InvalidCommand A.sf.s_InvalidGraph_InvalidCommand⟩
    rw [List.lookup_cons] at hl
    split at hl
    · rename_i e
      have e := beq_iff_eq.mp e
      subst e
      cases hl
      exact ⟨_, A.f_InvalidFamily.at, A.f_InvalidFamily.ex A.kf, kit_own A.f_InvalidFamily A.f_InvalidCommand A.sf.s_InvalidFamily_InvalidCommand⟩
    rw [List.lookup_cons] at hl
    split at hl
    · rename_i e
      have e := beq_iff_eq.mp e
      subst e
      cases hl
      exact ⟨_, A.f_InvalidAddress.at, A.f_InvalidAddress.ex A.kf, kit_own A.f_InvalidAddress A.f_InvalidCommand A.sf.s_InvalidAddress_InvalidCommand⟩
    rw [List.lookup_cons] at hl
    split at hl
    · rename_i e
      have e := beq_iff_eq.mp e
      subst e
      cases hl
      exact ⟨_, A.f_InvalidOperation.at, A.f_InvalidOperation.ex A.kf, kit_own A.f_InvalidOperation A.f_InvalidCommand A.sf.s_InvalidOperation_InvalidCommand⟩
    rw [List.lookup_cons] at hl
    split at hl
    · rename_i e
      have e := beq_iff_eq.mp e
      subst e
      cases hl
      exact ⟨_, A.f_InvalidEdit.at, A.f_InvalidEdit.ex A.kf, kit_own A.f_InvalidEdit A.f_InvalidCommand A.sf.s_InvalidEdit_InvalidCommand⟩
    rw [List.lookup_cons] at hl
    split at hl
    · rename_i e
      have e := beq_iff_eq.mp e
      subst e
      cases hl
      exact ⟨_, A.f_ParseError.at, A.f_ParseError.ex A.kf, kit_own A.f_ParseError A.f_InvalidCommand A.sf.s_ParseError_InvalidCommand⟩
    rw [List.lookup_cons] at hl
    split at hl
    · rename_i e
      have e := beq_iff_eq.mp e
      subst e
      cases hl
      exact ⟨_, A.f_InvalidCommand.at, A.f_InvalidCommand.ex A.kf, kit_own A.f_InvalidCommand A.f_InvalidCommand A.sf.s_InvalidCommand_InvalidCommand⟩
    cases hl
  cases hy
abbrev bmV : List Value := [.type "ValueError", .type "Exception", .type "BaseException", .type "object"]
def M0F (K : Frg) (C : Addr) : Prop := PySem.W.excIn K C bmV "ValueError.__new__" = true ∧ PySem.W.keepIn K (.ref C) = true
theorem m0_mk {K : Frg} {C : Addr} (h1 : PySem.W.excIn K C bmV "ValueError.__new__" = true) (h2 : PySem.W.keepIn K (.ref C) = true) : M0F K C := ⟨h1, h2⟩
theorem m0_ok {K : Frg} {h : Heap} {mg : Str → Option Value} {C0 C1 C2 C3 C4 C5 C6 C7 C8 C9 C10 C11 C12 C13 C14 : Addr} (kin : K.In h) (G : h.Ns mainGlobals mg) (A : AF K C0 C1 C2 C3 C4 C5 C6 C7 C8 C9 C10 C11 C12 C13 C14) (m : M0F K C0 ∧ M0F K C1 ∧ M0F K C2 ∧ M0F K C3 ∧ M0F K C4 ∧ M0F K C5 ∧ M0F K C6 ∧ M0F K C7 ∧ M0F K C8 ∧ M0F K C9) : M0Ok K mg x0 := by
  obtain ⟨m_LetError, m_InvalidName, m_InvalidTerm, m_InvalidGraph, m_InvalidFamily, m_InvalidAddress, m_InvalidOperation, m_InvalidEdit, m_ParseError, m_InvalidCommand⟩ := m
  intro c hc
  have hm : c ∈ x0L := by simpa [x0] using hc
  rcases List.mem_cons.mp hm with rfl | hm
  · exact m0_of kin G PySem.F.excBase_ValueError A.f_LetError.ns m_LetError.1 m_LetError.2
  rcases List.mem_cons.mp hm with rfl | hm
  · exact m0_of kin G PySem.F.excBase_ValueError A.f_InvalidName.ns m_InvalidName.1 m_InvalidName.2
  rcases List.mem_cons.mp hm with rfl | hm
  · exact m0_of kin G PySem.F.excBase_ValueError A.f_InvalidTerm.ns m_InvalidTerm.1 m_InvalidTerm.2
  rcases List.mem_cons.mp hm with rfl | hm
  · exact m0_of kin G PySem.F.excBase_ValueError A.f_InvalidGraph.ns m_InvalidGraph.1 m_InvalidGraph.2
  rcases List.mem_cons.mp hm with rfl | hm
  · exact m0_of kin G PySem.F.excBase_ValueError A.f_InvalidFamily.ns m_InvalidFamily.1 m_InvalidFamily.2
  rcases List.mem_cons.mp hm with rfl | hm
  · exact m0_of kin G PySem.F.excBase_ValueError A.f_InvalidAddress.ns m_InvalidAddress.1 m_InvalidAddress.2
  rcases List.mem_cons.mp hm with rfl | hm
  · exact m0_of kin G PySem.F.excBase_ValueError A.f_InvalidOperation.ns m_InvalidOperation.1 m_InvalidOperation.2
  rcases List.mem_cons.mp hm with rfl | hm
  · exact m0_of kin G PySem.F.excBase_ValueError A.f_InvalidEdit.ns m_InvalidEdit.1 m_InvalidEdit.2
  rcases List.mem_cons.mp hm with rfl | hm
  · exact m0_of kin G PySem.F.excBase_ValueError A.f_ParseError.ns m_ParseError.1 m_ParseError.2
  rcases List.mem_cons.mp hm with rfl | hm
  · exact m0_of kin G PySem.F.excBase_ValueError A.f_InvalidCommand.ns m_InvalidCommand.1 m_InvalidCommand.2
  cases hm
abbrev sI_InvalidNumber : Stmt := methS 11 0
theorem scI_InvalidNumber : FnScope ["self", "value"] ["self", "value"] (defScope sI_InvalidNumber) := ⟨rfl, rfl, rfl, by decide +kernel, rfl, by decide +kernel, by decide +kernel⟩
abbrev bm_InvalidNumber : List Value := [.type "IndexError", .type "LookupError", .type "Exception", .type "BaseException", .type "object"]
abbrev XF_InvalidNumber (K : Frg) : Prop := XF K "InvalidNumber" "value" "IndexError" "IndexError.__new__" "IndexError.__init__" bm_InvalidNumber sI_InvalidNumber "InvalidNumber.__init__"
abbrev sI_UnknownName : Stmt := methS 12 0
theorem scI_UnknownName : FnScope ["self", "name"] ["self", "name"] (defScope sI_UnknownName) := ⟨rfl, rfl, rfl, by decide +kernel, rfl, by decide +kernel, by decide +kernel⟩
abbrev bm_UnknownName : List Value := [.type "KeyError", .type "LookupError", .type "Exception", .type "BaseException", .type "object"]
abbrev XF_UnknownName (K : Frg) : Prop := XF K "UnknownName" "name" "KeyError" "LookupError.__new__" "KeyError.__init__" bm_UnknownName sI_UnknownName "UnknownName.__init__"
abbrev sI_TooMany : Stmt := methS 13 0
theorem scI_TooMany : FnScope ["self", "limit"] ["self", "limit"] (defScope sI_TooMany) := ⟨rfl, rfl, rfl, by decide +kernel, rfl, by decide +kernel, by decide +kernel⟩
abbrev bm_TooMany : List Value := [.type "OverflowError", .type "ArithmeticError", .type "Exception", .type "BaseException", .type "object"]
abbrev XF_TooMany (K : Frg) : Prop := XF K "TooMany" "limit" "OverflowError" "OverflowError.__new__" "OverflowError.__init__" bm_TooMany sI_TooMany "TooMany.__init__"
abbrev sI_Chained : Stmt := methS 14 0
theorem scI_Chained : FnScope ["self", "chain"] ["self", "chain"] (defScope sI_Chained) := ⟨rfl, rfl, rfl, by decide +kernel, rfl, by decide +kernel, by decide +kernel⟩
abbrev bm_Chained : List Value := [.type "RuntimeError", .type "Exception", .type "BaseException", .type "object"]
abbrev XF_Chained (K : Frg) : Prop := XF K "Chained" "chain" "RuntimeError" "RuntimeError.__new__" "RuntimeError.__init__" bm_Chained sI_Chained "Chained.__init__"
abbrev sI_NothingToUndo : Stmt := methS 15 0
theorem scI_NothingToUndo : FnScope ["self", "many"] ["self", "many"] (defScope sI_NothingToUndo) := ⟨rfl, rfl, rfl, by decide +kernel, rfl, by decide +kernel, by decide +kernel⟩
abbrev bm_NothingToUndo : List Value := [.type "LookupError", .type "Exception", .type "BaseException", .type "object"]
abbrev XF_NothingToUndo (K : Frg) : Prop := XF K "NothingToUndo" "many" "LookupError" "LookupError.__new__" "LookupError.__init__" bm_NothingToUndo sI_NothingToUndo "NothingToUndo.__init__"
theorem xc_ok {P : Program} {w : World} {K : Frg} {h : Heap} {mg : Str → Option Value} (kin : K.In h) (G : h.Ns mainGlobals mg) (base : Heap) (X : XF_InvalidNumber K ∧ XF_UnknownName K ∧ XF_TooMany K ∧ XF_Chained K ∧ XF_NothingToUndo K) : XcOk P w K mg base (caK K) xs := by
  obtain ⟨x_InvalidNumber, x_UnknownName, x_TooMany, x_Chained, x_NothingToUndo⟩ := X
  intro c f hc
  unfold xs xsL at hc
  rw [List.lookup_cons] at hc
  split at hc
  · rename_i e
    have e := beq_iff_eq.mp e
    subst e
    cases hc
    exact xc_of kin G ⟨_, XBs.of PySem.F.excBase_IndexError⟩ F.store_IndexError rfl (by kernel_rfl) (by decide +kernel) (by decide +kernel) (by decide +kernel) (by decide +kernel) scI_InvalidNumber (by decide +kernel) (by decide +kernel) (by decide +kernel) (by decide +kernel) (by decide +kernel) (by decide +kernel)
      (fun _ _ _ _ _ _ us hl => match us, hl with | [_, _], _ => rfl) x_InvalidNumber
  rw [List.lookup_cons] at hc
  split at hc
  · rename_i e
    have e := beq_iff_eq.mp e
    subst e
    cases hc
    exact xc_of kin G ⟨_, xb_KeyError⟩ store_KeyError rfl (by kernel_rfl) (by decide +kernel) (by decide +kernel) (by decide +kernel) (by decide +kernel) scI_UnknownName (by decide +kernel) (by decide +kernel) (by decide +kernel) (by decide +kernel) (by decide +kernel) (by decide +kernel)
      (fun _ _ _ _ _ _ us hl => match us, hl with | [_, _], _ => rfl) x_UnknownName
  rw [List.lookup_cons] at hc
  split at hc
  · rename_i e
    have e := beq_iff_eq.mp e
    subst e
    cases hc
    exact xc_of kin G ⟨_, XBs.of PySem.F.excBase_OverflowError⟩ F.store_OverflowError rfl (by kernel_rfl) (by decide +kernel) (by decide +kernel) (by decide +kernel) (by decide +kernel) scI_TooMany (by decide +kernel) (by decide +kernel) (by decide +kernel) (by decide +kernel) (by decide +kernel) (by decide +kernel)
      (fun _ _ _ _ _ _ us hl => match us, hl with | [_, _], _ => rfl) x_TooMany
  rw [List.lookup_cons] at hc
  split at hc
  · rename_i e
    have e := beq_iff_eq.mp e
    subst e
    cases hc
    exact xc_of kin G ⟨_, XBs.of PySem.F.excBase_RuntimeError⟩ F.store_RuntimeError rfl (by kernel_rfl) (by decide +kernel) (by decide +kernel) (by decide +kernel) (by decide +kernel) scI_Chained (by decide +kernel) (by decide +kernel) (by decide +kernel) (by decide +kernel) (by decide +kernel) (by decide +kernel)
      (fun _ _ _ _ _ _ us hl => match us, hl with | [_, _], _ => rfl) x_Chained
  rw [List.lookup_cons] at hc
  split at hc
  · rename_i e
    have e := beq_iff_eq.mp e
    subst e
    cases hc
    exact xc_of kin G ⟨_, XBs.of PySem.F.excBase_LookupError⟩ F.store_LookupError rfl (by kernel_rfl) (by decide +kernel) (by decide +kernel) (by decide +kernel) (by decide +kernel) scI_NothingToUndo (by decide +kernel) (by decide +kernel) (by decide +kernel) (by decide +kernel) (by decide +kernel) (by decide +kernel)
      (fun _ _ _ _ _ _ us hl => match us, hl with | [_, _], _ => rfl) x_NothingToUndo
  cases hc
theorem fl_ok {P : Program} {w : World} {K : Frg} {mg : Str → Option Value} {base : Heap} (X : XcOk P w K mg base (caK K) xs) : FlOk K xf := by
  have one : ∀ c f, xs c = some f → ∀ C, caK K c = some C → XfC K C ∧ PySem.W.findIn K (.ref C) f = some none := by
    intro c f hc C hC
    obtain ⟨C', B, newId, initId, bm, fI, fd, sv, xv, q1, q0, q2, q3, q4, q5, q6, q7, q8, q9, q10⟩ := X c f hc
    rw [hC] at q0
    cases q0
    exact ⟨q8, q9⟩
  intro f l hl0
  have hl := of_decide_eq_true hl0
  clear hl0
  unfold xfL at hl
  rw [List.lookup_cons] at hl
  split at hl
  · rename_i e
    have e := beq_iff_eq.mp e
    subst e
    cases hl
    intro c hc C hC
    have e : c = "InvalidNumber" := by simpa using hc
    subst e
    exact one _ _ rfl C hC
  rw [List.lookup_cons] at hl
  split at hl
  · rename_i e
    have e := beq_iff_eq.mp e
    subst e
    cases hl
    intro c hc C hC
    have e : c = "UnknownName" := by simpa using hc
    subst e
    exact one _ _ rfl C hC
  rw [List.lookup_cons] at hl
  split at hl
  · rename_i e
    have e := beq_iff_eq.mp e
    subst e
    cases hl
    intro c hc C hC
    have e : c = "TooMany" := by simpa using hc
    subst e
    exact one _ _ rfl C hC
  rw [List.lookup_cons] at hl
  split at hl
  · rename_i e
    have e := beq_iff_eq.mp e
    subst e
    cases hl
    intro c hc C hC
    have e : c = "Chained" := by simpa using hc
    subst e
    exact one _ _ rfl C hC
  rw [List.lookup_cons] at hl
  split at hl
  · rename_i e
    have e := beq_iff_eq.mp e
    subst e
    cases hl
    intro c hc C hC
    have e : c = "NothingToUndo" := by simpa using hc
    subst e
    exact one _ _ rfl C hC
  cases hl
theorem all_mk {P : Program} {w : World} {K : Frg} {h : Heap} {mg : Str → Option Value} {fa : Addr} {C0 C1 C2 C3 C4 C5 C6 C7 C8 C9 C10 C11 C12 C13 C14 : Addr} (kin : K.In h) (G : h.Ns mainGlobals mg) (hfa : mg "law" = some (.ref fa)) (T : Facts K) (A : AF K C0 C1 C2 C3 C4 C5 C6 C7 C8 C9 C10 C11 C12 C13 C14) (bb : PySem.W.nsIn K mainGlobals "ValueError" = some none ∧ PySem.W.nsIn K mainGlobals "IndexError" = some none ∧ PySem.W.nsIn K mainGlobals "LookupError" = some none ∧ PySem.W.nsIn K mainGlobals "KeyError" = some none ∧ PySem.W.nsIn K mainGlobals "OverflowError" = some none ∧ PySem.W.nsIn K mainGlobals "RuntimeError" = some none) (m : M0F K C0 ∧ M0F K C1 ∧ M0F K C2 ∧ M0F K C3 ∧ M0F K C4 ∧ M0F K C5 ∧ M0F K C6 ∧ M0F K C7 ∧ M0F K C8 ∧ M0F K C9) (X : XF_InvalidNumber K ∧ XF_UnknownName K ∧ XF_TooMany K ∧ XF_Chained K ∧ XF_NothingToUndo K) (bl : ∀ x ∈ bltNames, PySem.W.nsIn K mainGlobals x = some none) :
    ∃ fd : FuncData, (∀ (s : Shared) (v : Value), BindsTo s fd ⟨[v], []⟩ [("_law_script", v)]) ∧ ∀ base : Heap, K.In base → base.Ns mainGlobals mg → FnG P w K mg base 4 fa fd ["_law_script"] (spL gc Pd 2 K) := by
  have tb := tab kin G T
  obtain ⟨a, oc, od, kV, dc, pm, an, cd, ct, sl, h1, h2, h3, h4⟩ := T.f_law
  have e := hfa.symm.trans (PySem.W.mg_of kin G h1)
  cases e
  refine ⟨PySem.W.fnOf "law" "law" (defArgs s_law) (defBody s_law) (defScope s_law) .none kV dc pm an cd ct, fun s v => .of_eq rfl, fun base kb Gb => ?_⟩
  have R : Row K mg fs cs xs x0 xt xf Pd "law" fa (PySem.W.fnOf "law" "law" (defArgs s_law) (defBody s_law) (defScope s_law) .none kV dc pm an cd ct) ["_law_script"] :=
    ⟨"law", "law", s_law, N_law, d_law, fun_mk (st := s_law) h2 h3 h4, sc_law, hfa, Binds.all fun us hl => match us, hl with | [_], _ => rfl, rfl, rfl, rfl, ck_law⟩
  have xc := xc_ok (P := P) (w := w) kin G base X
  exact fn_all tb (fun x hx => hx) (fun x d hx => by cases hx) (fun x hx => PySem.W.mg_none_of kin G (bl x hx)) xc (m0_ok kin G A m) (it_ok kin G A bb) (fl_ok xc) 2 "law" fa _ _ R
end K00

set_option pp.maxSteps 300
open PySem PySem.W PyProof.Rows
set_option maxHeartbeats 0 in
theorem PySem.Challenge.cw_sharedlets_k00_errors_holds : PySem.Challenge.rw_sharedlets_k00_errors.Holds := by
  w_on; o_law; k_head; (case hw => w_witness2)
  k_fill
  refine Mi.walkG_ofK (l := PySem.Challenge.rw_sharedlets_k00_errors) (n := 63) (k := 4) (x := "_law_script") (sp := Mi.spL K00.gc K00.Pd 2) rfl (by decide) rfl ⟨rfl, by decide, by decide⟩ (fun w h Y => PySem.W.kIn_of Y) ?F (fun K H a ns hl _ hS => Mi.spL_of (K00.law_true ns hl) K H a hS)
  case F =>
    intro w mg fa h KX G hmg
    refine' K00.all_mk KX G hmg ?T ?A ?oB ?oM ?oX ?oN
    case T =>
      constructor
      · (refine' K00.ff_mk ?a ?l ?c ?k); (case a => k_is); (case l => k_is); (case c => k_is); (case k => k_is)
      · (refine' K00.ff_mk ?a ?l ?c ?k); (case a => k_is); (case l => k_is); (case c => k_is); (case k => k_is)
      · (refine' K00.ff_mk ?a ?l ?c ?k); (case a => k_is); (case l => k_is); (case c => k_is); (case k => k_is)
      · (refine' K00.ff_mk ?a ?l ?c ?k); (case a => k_is); (case l => k_is); (case c => k_is); (case k => k_is)
    case A =>
      refine' K00.AF.mk (K00.KF.mk ?k1 ?k2) ?C0 ?C1 ?C2 ?C3 ?C4 ?C5 ?C6 ?C7 ?C8 ?C9 ?C10 ?C11 ?C12 ?C13 ?C14 ?sf
      (case k1 => k_is)
      (case k2 => k_is)
      case C0 => (refine' K00.CF.mk ?a ?b ?c ?d ?e ?f ?g ?h ?i ?j); (case a => k_is); (case b => k_is); (case c => k_is); (case d => k_is); (case e => k_is); (case f => k_is); (case g => k_is); (case h => k_is); (case i => k_is); (case j => k_is)
      case C1 => (refine' K00.CF.mk ?a ?b ?c ?d ?e ?f ?g ?h ?i ?j); (case a => k_is); (case b => k_is); (case c => k_is); (case d => k_is); (case e => k_is); (case f => k_is); (case g => k_is); (case h => k_is); (case i => k_is); (case j => k_is)
      case C2 => (refine' K00.CF.mk ?a ?b ?c ?d ?e ?f ?g ?h ?i ?j); (case a => k_is); (case b => k_is); (case c => k_is); (case d => k_is); (case e => k_is); (case f => k_is); (case g => k_is); (case h => k_is); (case i => k_is); (case j => k_is)
      case C3 => (refine' K00.CF.mk ?a ?b ?c ?d ?e ?f ?g ?h ?i ?j); (case a => k_is); (case b => k_is); (case c => k_is); (case d => k_is); (case e => k_is); (case f => k_is); (case g => k_is); (case h => k_is); (case i => k_is); (case j => k_is)
      case C4 => (refine' K00.CF.mk ?a ?b ?c ?d ?e ?f ?g ?h ?i ?j); (case a => k_is); (case b => k_is); (case c => k_is); (case d => k_is); (case e => k_is); (case f => k_is); (case g => k_is); (case h => k_is); (case i => k_is); (case j => k_is)
      case C5 => (refine' K00.CF.mk ?a ?b ?c ?d ?e ?f ?g ?h ?i ?j); (case a => k_is); (case b => k_is); (case c => k_is); (case d => k_is); (case e => k_is); (case f => k_is); (case g => k_is); (case h => k_is); (case i => k_is); (case j => k_is)
      case C6 => (refine' K00.CF.mk ?a ?b ?c ?d ?e ?f ?g ?h ?i ?j); (case a => k_is); (case b => k_is); (case c => k_is); (case d => k_is); (case e => k_is); (case f => k_is); (case g => k_is); (case h => k_is); (case i => k_is); (case j => k_is)
      case C7 => (refine' K00.CF.mk ?a ?b ?c ?d ?e ?f ?g ?h ?i ?j); (case a => k_is); (case b => k_is); (case c => k_is); (case d => k_is); (case e => k_is); (case f => k_is); (case g => k_is); (case h => k_is); (case i => k_is); (case j => k_is)
      case C8 => (refine' K00.CF.mk ?a ?b ?c ?d ?e ?f ?g ?h ?i ?j); (case a => k_is); (case b => k_is); (case c => k_is); (case d => k_is); (case e => k_is); (case f => k_is); (case g => k_is); (case h => k_is); (case i => k_is); (case j => k_is)
      case C9 => (refine' K00.CF.mk ?a ?b ?c ?d ?e ?f ?g ?h ?i ?j); (case a => k_is); (case b => k_is); (case c => k_is); (case d => k_is); (case e => k_is); (case f => k_is); (case g => k_is); (case h => k_is); (case i => k_is); (case j => k_is)
      case C10 => (refine' K00.CF.mk ?a ?b ?c ?d ?e ?f ?g ?h ?i ?j); (case a => k_is); (case b => k_is); (case c => k_is); (case d => k_is); (case e => k_is); (case f => k_is); (case g => k_is); (case h => k_is); (case i => k_is); (case j => k_is)
      case C11 => (refine' K00.CF.mk ?a ?b ?c ?d ?e ?f ?g ?h ?i ?j); (case a => k_is); (case b => k_is); (case c => k_is); (case d => k_is); (case e => k_is); (case f => k_is); (case g => k_is); (case h => k_is); (case i => k_is); (case j => k_is)
      case C12 => (refine' K00.CF.mk ?a ?b ?c ?d ?e ?f ?g ?h ?i ?j); (case a => k_is); (case b => k_is); (case c => k_is); (case d => k_is); (case e => k_is); (case f => k_is); (case g => k_is); (case h => k_is); (case i => k_is); (case j => k_is)
      case C13 => (refine' K00.CF.mk ?a ?b ?c ?d ?e ?f ?g ?h ?i ?j); (case a => k_is); (case b => k_is); (case c => k_is); (case d => k_is); (case e => k_is); (case f => k_is); (case g => k_is); (case h => k_is); (case i => k_is); (case j => k_is)
      case C14 => (refine' K00.CF.mk ?a ?b ?c ?d ?e ?f ?g ?h ?i ?j); (case a => k_is); (case b => k_is); (case c => k_is); (case d => k_is); (case e => k_is); (case f => k_is); (case g => k_is); (case h => k_is); (case i => k_is); (case j => k_is)
      case sf =>
        refine' K00.SF.mk ?s0 ?s1 ?s2 ?s3 ?s4 ?s5 ?s6 ?s7 ?s8 ?s9 ?s10 ?s11 ?s12 ?s13 ?s14 ?s15 ?s16 ?s17 ?s18 ?s19 ?s20 ?s21 ?s22 ?s23 ?s24 ?s25 ?s26 ?s27 ?s28 ?s29 ?s30 ?s31 ?s32 ?s33 ?s34 ?s35 ?s36 ?s37 ?s38 ?s39 ?s40 ?s41 ?s42 ?s43 ?s44 ?s45 ?s46 ?s47 ?s48 ?s49 ?s50 ?s51 ?s52 ?s53 ?s54 ?s55 ?s56 ?s57 ?s58 ?s59 ?s60 ?s61 ?s62 ?s63 ?s64 ?s65 ?s66 ?s67 ?s68 ?s69 ?s70 ?s71 ?s72 ?s73 ?s74 ?s75 ?s76 ?s77 ?s78 ?s79 ?s80 ?s81 ?s82 ?s83 ?s84 ?s85 ?s86 ?s87 ?s88 ?s89 ?s90 ?s91 ?s92 ?s93 ?s94 ?s95 ?s96 ?s97 ?s98 ?s99 ?s100 ?s101 ?s102 ?s103 ?s104 ?s105 ?s106 ?s107 ?s108 ?s109 ?s110 ?s111 ?s112 ?s113 ?s114 ?s115 ?s116 ?s117 ?s118 ?s119 ?s120 ?s121 ?s122 ?s123 ?s124 ?s125 ?s126 ?s127 ?s128 ?s129 ?s130 ?s131 ?s132 ?s133 ?s134 ?s135 ?s136 ?s137 ?s138 ?s139 ?s140
        (case s0 => k_is)
        (case s1 => k_is)
        (case s2 => k_is)
        (case s3 => k_is)
        (case s4 => k_is)
        (case s5 => k_is)
        (case s6 => k_is)
        (case s7 => k_is)
        (case s8 => k_is)
        (case s9 => k_is)
        (case s10 => k_is)
        (case s11 => k_is)
        (case s12 => k_is)
        (case s13 => k_is)
        (case s14 => k_is)
        (case s15 => k_is)
        (case s16 => k_is)
        (case s17 => k_is)
        (case s18 => k_is)
        (case s19 => k_is)
        (case s20 => k_is)
        (case s21 => k_is)
        (case s22 => k_is)
        (case s23 => k_is)
        (case s24 => k_is)
        (case s25 => k_is)
        (case s26 => k_is)
        (case s27 => k_is)
        (case s28 => k_is)
        (case s29 => k_is)
        (case s30 => k_is)
        (case s31 => k_is)
        (case s32 => k_is)
        (case s33 => k_is)
        (case s34 => k_is)
        (case s35 => k_is)
        (case s36 => k_is)
        (case s37 => k_is)
        (case s38 => k_is)
        (case s39 => k_is)
        (case s40 => k_is)
        (case s41 => k_is)
        (case s42 => k_is)
        (case s43 => k_is)
        (case s44 => k_is)
        (case s45 => k_is)
        (case s46 => k_is)
        (case s47 => k_is)
        (case s48 => k_is)
        (case s49 => k_is)
        (case s50 => k_is)
        (case s51 => k_is)
        (case s52 => k_is)
        (case s53 => k_is)
        (case s54 => k_is)
        (case s55 => k_is)
        (case s56 => k_is)
        (case s57 => k_is)
        (case s58 => k_is)
        (case s59 => k_is)
        (case s60 => k_is)
        (case s61 => k_is)
        (case s62 => k_is)
        (case s63 => k_is)
        (case s64 => k_is)
        (case s65 => k_is)
        (case s66 => k_is)
        (case s67 => k_is)
        (case s68 => k_is)
        (case s69 => k_is)
        (case s70 => k_is)
        (case s71 => k_is)
        (case s72 => k_is)
        (case s73 => k_is)
        (case s74 => k_is)
        (case s75 => k_is)
        (case s76 => k_is)
        (case s77 => k_is)
        (case s78 => k_is)
        (case s79 => k_is)
        (case s80 => k_is)
        (case s81 => k_is)
        (case s82 => k_is)
        (case s83 => k_is)
        (case s84 => k_is)
        (case s85 => k_is)
        (case s86 => k_is)
        (case s87 => k_is)
        (case s88 => k_is)
        (case s89 => k_is)
        (case s90 => k_is)
        (case s91 => k_is)
        (case s92 => k_is)
        (case s93 => k_is)
        (case s94 => k_is)
        (case s95 => k_is)
        (case s96 => k_is)
        (case s97 => k_is)
        (case s98 => k_is)
        (case s99 => k_is)
        (case s100 => k_is)
        (case s101 => k_is)
        (case s102 => k_is)
        (case s103 => k_is)
        (case s104 => k_is)
        (case s105 => k_is)
        (case s106 => k_is)
        (case s107 => k_is)
        (case s108 => k_is)
        (case s109 => k_is)
        (case s110 => k_is)
        (case s111 => k_is)
        (case s112 => k_is)
        (case s113 => k_is)
        (case s114 => k_is)
        (case s115 => k_is)
        (case s116 => k_is)
        (case s117 => k_is)
        (case s118 => k_is)
        (case s119 => k_is)
        (case s120 => k_is)
        (case s121 => k_is)
        (case s122 => k_is)
        (case s123 => k_is)
        (case s124 => k_is)
        (case s125 => k_is)
        (case s126 => k_is)
        (case s127 => k_is)
        (case s128 => k_is)
        (case s129 => k_is)
        (case s130 => k_is)
        (case s131 => k_is)
        (case s132 => k_is)
        (case s133 => k_is)
        (case s134 => k_is)
        (case s135 => k_is)
        (case s136 => k_is)
        (case s137 => k_is)
        (case s138 => k_is)
        (case s139 => k_is)
        (case s140 => k_is)
    case oB =>
      exact ⟨by k_is, by k_is, by k_is, by k_is, by k_is, by k_is⟩
    case oM =>
      refine' ⟨K00.m0_mk ?me0 ?mk0, K00.m0_mk ?me1 ?mk1, K00.m0_mk ?me2 ?mk2, K00.m0_mk ?me3 ?mk3, K00.m0_mk ?me4 ?mk4, K00.m0_mk ?me5 ?mk5, K00.m0_mk ?me6 ?mk6, K00.m0_mk ?me7 ?mk7, K00.m0_mk ?me8 ?mk8, K00.m0_mk ?me9 ?mk9⟩
      (case me0 => k_exc)
      (case mk0 => k_is)
      (case me1 => k_exc)
      (case mk1 => k_is)
      (case me2 => k_exc)
      (case mk2 => k_is)
      (case me3 => k_exc)
      (case mk3 => k_is)
      (case me4 => k_exc)
      (case mk4 => k_is)
      (case me5 => k_exc)
      (case mk5 => k_is)
      (case me6 => k_exc)
      (case mk6 => k_is)
      (case me7 => k_exc)
      (case mk7 => k_is)
      (case me8 => k_exc)
      (case mk8 => k_is)
      (case me9 => k_exc)
      (case mk9 => k_is)
    case oX =>
      refine' ⟨?ox0, ?ox1, ?ox2, ?ox3, ?ox4⟩
      case ox0 =>
        refine' K00.xf_mk ?x1 ?x2 ?x3 ?x4 ?x5 ?x6 ?x7 ?x8 ?x9 ?x10 ?x11 ?x12 ?x13 ?x14 ?x17 ?x18 ?x19 ?x15 ?x16
        (case x1 => k_is)
        (case x2 => k_is)
        (case x3 => k_is)
        (case x4 => k_is)
        (case x5 => k_is)
        (case x6 => k_is)
        (case x7 => k_is)
        (case x8 => k_is)
        (case x9 => k_is)
        (case x10 => k_is)
        (case x11 => k_is)
        (case x12 => k_is)
        (case x13 => k_is)
        (case x14 => k_is)
        (case x17 => k_is)
        (case x18 => k_is)
        (case x19 => k_is)
        (case x15 => k_is)
        (case x16 => k_is)
      case ox1 =>
        refine' K00.xf_mk ?x1 ?x2 ?x3 ?x4 ?x5 ?x6 ?x7 ?x8 ?x9 ?x10 ?x11 ?x12 ?x13 ?x14 ?x17 ?x18 ?x19 ?x15 ?x16
        (case x1 => k_is)
        (case x2 => k_is)
        (case x3 => k_is)
        (case x4 => k_is)
        (case x5 => k_is)
        (case x6 => k_is)
        (case x7 => k_is)
        (case x8 => k_is)
        (case x9 => k_is)
        (case x10 => k_is)
        (case x11 => k_is)
        (case x12 => k_is)
        (case x13 => k_is)
        (case x14 => k_is)
        (case x17 => k_is)
        (case x18 => k_is)
        (case x19 => k_is)
        (case x15 => k_is)
        (case x16 => k_is)
      case ox2 =>
        refine' K00.xf_mk ?x1 ?x2 ?x3 ?x4 ?x5 ?x6 ?x7 ?x8 ?x9 ?x10 ?x11 ?x12 ?x13 ?x14 ?x17 ?x18 ?x19 ?x15 ?x16
        (case x1 => k_is)
        (case x2 => k_is)
        (case x3 => k_is)
        (case x4 => k_is)
        (case x5 => k_is)
        (case x6 => k_is)
        (case x7 => k_is)
        (case x8 => k_is)
        (case x9 => k_is)
        (case x10 => k_is)
        (case x11 => k_is)
        (case x12 => k_is)
        (case x13 => k_is)
        (case x14 => k_is)
        (case x17 => k_is)
        (case x18 => k_is)
        (case x19 => k_is)
        (case x15 => k_is)
        (case x16 => k_is)
      case ox3 =>
        refine' K00.xf_mk ?x1 ?x2 ?x3 ?x4 ?x5 ?x6 ?x7 ?x8 ?x9 ?x10 ?x11 ?x12 ?x13 ?x14 ?x17 ?x18 ?x19 ?x15 ?x16
        (case x1 => k_is)
        (case x2 => k_is)
        (case x3 => k_is)
        (case x4 => k_is)
        (case x5 => k_is)
        (case x6 => k_is)
        (case x7 => k_is)
        (case x8 => k_is)
        (case x9 => k_is)
        (case x10 => k_is)
        (case x11 => k_is)
        (case x12 => k_is)
        (case x13 => k_is)
        (case x14 => k_is)
        (case x17 => k_is)
        (case x18 => k_is)
        (case x19 => k_is)
        (case x15 => k_is)
        (case x16 => k_is)
      case ox4 =>
        refine' K00.xf_mk ?x1 ?x2 ?x3 ?x4 ?x5 ?x6 ?x7 ?x8 ?x9 ?x10 ?x11 ?x12 ?x13 ?x14 ?x17 ?x18 ?x19 ?x15 ?x16
        (case x1 => k_is)
        (case x2 => k_is)
        (case x3 => k_is)
        (case x4 => k_is)
        (case x5 => k_is)
        (case x6 => k_is)
        (case x7 => k_is)
        (case x8 => k_is)
        (case x9 => k_is)
        (case x10 => k_is)
        (case x11 => k_is)
        (case x12 => k_is)
        (case x13 => k_is)
        (case x14 => k_is)
        (case x17 => k_is)
        (case x18 => k_is)
        (case x19 => k_is)
        (case x15 => k_is)
        (case x16 => k_is)
    case oN =>
      intro x hx
      (rcases List.mem_cons.mp hx with rfl | hx); (· k_is)
      (rcases List.mem_cons.mp hx with rfl | hx); (· k_is)
      (rcases List.mem_cons.mp hx with rfl | hx); (· k_is)
      (rcases List.mem_cons.mp hx with rfl | hx); (· k_is)
      (rcases List.mem_cons.mp hx with rfl | hx); (· k_is)
      (rcases List.mem_cons.mp hx with rfl | hx); (· k_is)
      (rcases List.mem_cons.mp hx with rfl | hx); (· k_is)
      (rcases List.mem_cons.mp hx with rfl | hx); (· k_is)
      (rcases List.mem_cons.mp hx with rfl | hx); (· k_is)
      (rcases List.mem_cons.mp hx with rfl | hx); (· k_is)
      (rcases List.mem_cons.mp hx with rfl | hx); (· k_is)
      (rcases List.mem_cons.mp hx with rfl | hx); (· k_is)
      (rcases List.mem_cons.mp hx with rfl | hx); (· k_is)
      (rcases List.mem_cons.mp hx with rfl | hx); (· k_is)
      (rcases List.mem_cons.mp hx with rfl | hx); (· k_is)
      (rcases List.mem_cons.mp hx with rfl | hx); (· k_is)
      (rcases List.mem_cons.mp hx with rfl | hx); (· k_is)
      (rcases List.mem_cons.mp hx with rfl | hx); (· k_is)
      (rcases List.mem_cons.mp hx with rfl | hx); (· k_is)
      (rcases List.mem_cons.mp hx with rfl | hx); (· k_is)
      cases hx
