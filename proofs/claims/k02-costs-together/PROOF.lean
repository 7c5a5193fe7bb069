import PyProof.Rows.All
import Wide.All
import OpenK.AllK
import Wide.FinOn
import HandS.ForMost
import HandS.ForExc
import HandS.Wide
import HandS.IsInst
import HandS.Deep
import HandS.TupLen
import KE.DataEq
import KE.DataCmp
import KE.DataMinMax
import KE.DataFind
import KE.DataAny
import KE.SortData
import HandS.Style
import PyProof.Rows.CallKwBuiltin
import HandS.Defaults
import HandS.HeadEnd
import HandS.Head0
import HandS.Head1
import HandS.Head2
import HandS.HeadHook1
import HandS.HeadHook2
import HandS.EndBits
import PySem.Challenge.RW_nodeladder_k02_costs_together
set_option Elab.async false
set_option linter.all false
set_option maxRecDepth 100000
set_option maxHeartbeats 4000000
namespace Pd
open PySem L2

/-! ### data -/
inductive D where
  | non | bl (b : Bool) | int (i : Int) | str (x : Str)
  | tup (xs : List D) | lst (xs : List D) | fz (xs : List D)
  | dK (ks : List Key) (vs : List D) | dT (ks : List (List Key)) (vs : List D)
  | ins (c : Str) (ns : List Str) (vs : List D)
  | exc (c : Str)
abbrev Env := List (Option D)
inductive R (α : Type) where
  | ok (a : α) | exc (x : Str) | no
@[inline] def R.bind {α β : Type} (r : R α) (k : α → R β) : R β := match r with
  | .ok a => k a | .exc x => .exc x | .no => .no
@[simp] theorem R.bind_ok {α β : Type} (a : α) (k : α → R β) : (R.ok a).bind k = k a := rfl
@[simp] theorem R.bind_exc {α β : Type} (x : Str) (k : α → R β) : (R.exc x).bind k = .exc x := rfl
@[simp] theorem R.bind_no {α β : Type} (k : α → R β) : (R.no).bind k = .no := rfl
inductive SR where
  | nx (ρ : Env) | bk (ρ : Env) | ct (ρ : Env) | rt (d : D) (ρ : Env) | ex (x : Str) (ρ : Env) | no
mutual
def imm : D → Bool
  | .tup xs => immAll xs
  | .lst _ => false
  | .fz xs => immAll xs
  | .dK _ _ => false
  | .dT _ _ => false
  | .ins _ _ _ => false
  | .non => true
  | .bl _ => true
  | .int _ => true
  | .str _ => true
  | .exc _ => true
def immAll : List D → Bool
  | [] => true
  | d :: ds => imm d && immAll ds
end
def kD : Key → D
  | .inl i => .int i
  | .inr x => .str x
def tkD (k : List Key) : D := .tup (k.map kD)
def keyOf : D → Option Key
  | .int i => some (.inl i)
  | .str x => some (.inr x)
  | _ => none
def keysOf : List D → Option (List Key)
  | [] => some []
  | d :: ds => match keyOf d, keysOf ds with
    | some k, some ks => some (k :: ks)
    | _, _ => none
def isMut : HO → Bool
  | .lst _ => true
  | .dK _ => true
  | .dT _ => true
  | .ins _ _ _ => true
  | _ => false
/-- the written part, and where the own classes stand -/
structure Md where
  K : PySem.W.Frag
  cm : Str → Option Addr
/-- a list that nobody writes -/
def FzL (K : PySem.W.Frag) (H : Hp) (a : Addr) (vs : List V) : Prop := (∃ o, H a = some (.frz o (.lst vs))) ∨ ∀ H', SqL K H' a vs
theorem FzL.sq {K : PySem.W.Frag} {H : Hp} {a : Addr} {vs : List V} (h : FzL K H a vs) : SqL K H a vs := h.elim (fun ⟨o, e⟩ => .inl (.inr ⟨o, e⟩)) fun e => e H

/-! ### how data lie in the heap; the last list: the objects that may be written, each once -/
mutual
inductive Rp (cm : Md) (H : Hp) : V → D → List Addr → Prop
  | non : Rp cm H .non .non []
  | bl (b : Bool) : Rp cm H (.bl b) (.bl b) []
  | int (i : Int) : Rp cm H (.int i) (.int i) []
  | str (x : Str) : Rp cm H (.str x) (.str x) []
  | tup {a : Addr} {vs : List V} {ds : List D} {F : List Addr} : H a = some (.tup vs) → Rps cm H vs ds F → Rp cm H (.ref a) (.tup ds) F
  | lst {a : Addr} {vs : List V} {ds : List D} {F : List Addr} : H a = some (.lst vs) → Rps cm H vs ds F → Rp cm H (.ref a) (.lst ds) (a :: F)
  | frz {a : Addr} {vs : List V} {ds : List D} {F : List Addr} : FzL cm.K H a vs → Rps cm H vs ds F → Rp cm H (.ref a) (.fz ds) F
  | dK {a : Addr} {kvs : List (Key × V)} {ks : List Key} {ds : List D} {F : List Addr} : H a = some (.dK kvs) → ks = kvs.map (·.1) → Rps cm H (kvs.map (·.2)) ds F → Rp cm H (.ref a) (.dK ks ds) (a :: F)
  | dT {a : Addr} {kvs : List (List Key × V)} {ks : List (List Key)} {ds : List D} {F : List Addr} : H a = some (.dT kvs) → ks = kvs.map (·.1) → Rps cm H (kvs.map (·.2)) ds F → Rp cm H (.ref a) (.dT ks ds) (a :: F)
  | ins {a C dx : Addr} {fs : List (Str × V)} {c : Str} {ns : List Str} {ds : List D} {F : List Addr} : H a = some (.ins C dx fs) → cm.cm c = some C → ns = fs.map (·.1) → Rps cm H (fs.map (·.2)) ds F → Rp cm H (.ref a) (.ins c ns ds) (a :: F)
inductive Rps (cm : Md) (H : Hp) : List V → List D → List Addr → Prop
  | nil : Rps cm H [] [] []
  | cons {v : V} {vs : List V} {d : D} {ds : List D} {F G : List Addr} : Rp cm H v d F → Rps cm H vs ds G → Rps cm H (v :: vs) (d :: ds) (F ++ G)
end
section
variable {cm : Md} {H H' : Hp}
mutual
theorem Rp.trk {v : V} {d : D} {F : List Addr} : Rp cm H v d F → ∀ a ∈ F, H a ≠ none
  | .non, a, h => nomatch h
  | .bl _, a, h => nomatch h
  | .int _, a, h => nomatch h
  | .str _, a, h => nomatch h
  | .tup _ r, a, h => Rps.trk r a h
  | .lst e r, a, h => (List.mem_cons.mp h).elim (fun z => by rw [z, e]; exact Option.some_ne_none _) fun z => Rps.trk r a z
  | .frz e r, a, h => Rps.trk r a h
  | .dK e _ r, a, h => (List.mem_cons.mp h).elim (fun z => by rw [z, e]; exact Option.some_ne_none _) fun z => Rps.trk r a z
  | .dT e _ r, a, h => (List.mem_cons.mp h).elim (fun z => by rw [z, e]; exact Option.some_ne_none _) fun z => Rps.trk r a z
  | .ins e _ _ r, a, h => (List.mem_cons.mp h).elim (fun z => by rw [z, e]; exact Option.some_ne_none _) fun z => Rps.trk r a z
theorem Rps.trk {vs : List V} {ds : List D} {F : List Addr} : Rps cm H vs ds F → ∀ a ∈ F, H a ≠ none
  | .nil, a, h => nomatch h
  | .cons r s, a, h => (List.mem_append.mp h).elim (fun z => Rp.trk r a z) fun z => Rps.trk s a z
end
mutual
theorem Rp.mono {v : V} {d : D} {F : List Addr} : Rp cm H v d F → (∀ b o, H b = some o → (b ∈ F ∨ isMut o = false) → H' b = some o) → Rp cm H' v d F
  | .non, k => .non
  | .bl _, k => .bl _
  | .int _, k => .int _
  | .str _, k => .str _
  | .tup e r, k => .tup (k _ _ e (.inr rfl)) (Rps.mono r k)
  | .lst e r, k => .lst (k _ _ e (.inl List.mem_cons_self)) (Rps.mono r fun b o q z => k b o q (z.imp (List.mem_cons_of_mem _) id))
  | .frz e r, k => .frz (e.imp (fun ⟨o, e⟩ => ⟨o, k _ _ e (.inr rfl)⟩) id) (Rps.mono r k)
  | .dK e h r, k => .dK (k _ _ e (.inl List.mem_cons_self)) h (Rps.mono r fun b o q z => k b o q (z.imp (List.mem_cons_of_mem _) id))
  | .dT e h r, k => .dT (k _ _ e (.inl List.mem_cons_self)) h (Rps.mono r fun b o q z => k b o q (z.imp (List.mem_cons_of_mem _) id))
  | .ins e h h' r, k => .ins (k _ _ e (.inl List.mem_cons_self)) h h' (Rps.mono r fun b o q z => k b o q (z.imp (List.mem_cons_of_mem _) id))
theorem Rps.mono {vs : List V} {ds : List D} {F : List Addr} : Rps cm H vs ds F → (∀ b o, H b = some o → (b ∈ F ∨ isMut o = false) → H' b = some o) → Rps cm H' vs ds F
  | .nil, k => .nil
  | .cons r s, k => .cons (Rp.mono r fun b o q z => k b o q (z.imp (List.mem_append_left _) id)) (Rps.mono s fun b o q z => k b o q (z.imp (List.mem_append_right _) id))
end
theorem Rp.same {v : V} {d : D} {F : List Addr} (r : Rp cm H v d F) (s : Same H H') : Rp cm H' v d F := r.mono fun b o e _ => s b o e
theorem Rps.same {v : List V} {d : List D} {F : List Addr} (r : Rps cm H v d F) (s : Same H H') : Rps cm H' v d F := r.mono fun b o e _ => s b o e
mutual
theorem Rp.imm {v : V} {d : D} {F : List Addr} : Rp cm H v d F → Pd.imm d = true → F = []
  | .non, _ => rfl
  | .bl _, _ => rfl
  | .int _, _ => rfl
  | .str _, _ => rfl
  | .tup _ r, h => Rps.imm r (by simpa [Pd.imm] using h)
  | .lst _ _, h => by simp [Pd.imm] at h
  | .frz _ r, h => Rps.imm r (by simpa [Pd.imm] using h)
  | .dK _ _ _, h => by simp [Pd.imm] at h
  | .dT _ _ _, h => by simp [Pd.imm] at h
  | .ins _ _ _ _, h => by simp [Pd.imm] at h
theorem Rps.imm {vs : List V} {ds : List D} {F : List Addr} : Rps cm H vs ds F → Pd.immAll ds = true → F = []
  | .nil, _ => rfl
  | .cons r s, h => by
    simp only [Pd.immAll, Bool.and_eq_true] at h
    rw [Rp.imm r h.1, Rps.imm s h.2]
    rfl
end
theorem Rps.length {vs : List V} {ds : List D} {F : List Addr} (r : Rps cm H vs ds F) : vs.length = ds.length := by
  induction ds generalizing vs F with
  | nil => cases r; rfl
  | cons d ds ih => cases r with | cons r s => simp [ih s]
theorem Rps.get {vs : List V} {ds : List D} {F : List Addr} (r : Rps cm H vs ds F) : ∀ {i : Nat} {d : D}, ds[i]? = some d → ∃ v G, vs[i]? = some v ∧ Rp cm H v d G ∧ G.Sublist F := by
  induction ds generalizing vs F with
  | nil => intro i d h; simp at h
  | cons e ds ih =>
    intro i d h
    cases r with
    | cons r s =>
      cases i with
      | zero => simp at h; subst h; exact ⟨_, _, rfl, r, List.sublist_append_left _ _⟩
      | succ i =>
        obtain ⟨v, G, h1, h2, h3⟩ := ih s (i := i) (d := d) (by simpa using h)
        exact ⟨v, G, by simpa using h1, h2, h3.trans (List.sublist_append_right _ _)⟩
theorem Rps.getV {vs : List V} {ds : List D} {F : List Addr} (r : Rps cm H vs ds F) {i : Nat} {v : V} (h : vs[i]? = some v) : ∃ d G, ds[i]? = some d ∧ Rp cm H v d G ∧ G.Sublist F := by
  have hl := r.length
  have hi : i < ds.length := by
    have := (List.getElem?_eq_some_iff.mp h).1
    omega
  obtain ⟨v', G, h1, h2, h3⟩ := r.get (List.getElem?_eq_getElem hi)
  rw [h] at h1
  cases h1
  exact ⟨_, G, List.getElem?_eq_getElem hi, h2, h3⟩
theorem Rps.append {vs vs' : List V} {ds ds' : List D} {F G : List Addr} (r : Rps cm H vs ds F) (s : Rps cm H vs' ds' G) : Rps cm H (vs ++ vs') (ds ++ ds') (F ++ G) := by
  induction ds generalizing vs F with
  | nil => cases r; exact s
  | cons d ds ih =>
    cases r with
    | cons r1 r2 =>
      have q := Rps.cons r1 (ih r2)
      simpa [List.append_assoc] using q
theorem Rps.one {v : V} {d : D} {F : List Addr} (r : Rp cm H v d F) : Rps cm H [v] [d] F := by
  have := Rps.cons r .nil
  simpa using this
theorem Rps.split {vs : List V} {ds ds' : List D} {F : List Addr} (r : Rps cm H vs (ds ++ ds') F) : ∃ v1 v2 F1 F2, vs = v1 ++ v2 ∧ F = F1 ++ F2 ∧ Rps cm H v1 ds F1 ∧ Rps cm H v2 ds' F2 := by
  induction ds generalizing vs F with
  | nil => exact ⟨[], vs, [], F, rfl, rfl, .nil, r⟩
  | cons d ds ih =>
    cases r with
    | cons r1 r2 =>
      obtain ⟨v1, v2, F1, F2, e1, e2, h1, h2⟩ := ih r2
      subst e1 e2
      exact ⟨_ :: v1, v2, _ ++ F1, F2, rfl, by simp, .cons r1 h1, h2⟩
theorem Rps.takeDrop {vs : List V} {ds : List D} {F : List Addr} (r : Rps cm H vs ds F) (n : Nat) : ∃ F1 F2, F = F1 ++ F2 ∧ Rps cm H (vs.take n) (ds.take n) F1 ∧ Rps cm H (vs.drop n) (ds.drop n) F2 := by
  have hl := r.length
  rw [show ds = ds.take n ++ ds.drop n from (List.take_append_drop n ds).symm] at r
  obtain ⟨v1, v2, F1, F2, e1, e2, h1, h2⟩ := r.split
  have l1 := h1.length
  have a1 : v1 = vs.take n := by
    subst e1
    rw [List.length_take] at l1
    rw [List.take_append]
    rw [List.length_append] at hl
    by_cases hn : n ≤ ds.length
    · rw [show min n ds.length = n by omega] at l1
      rw [← l1, List.take_length]; simp
    · have l2 := h2.length
      rw [List.length_drop] at l2
      have : v2 = [] := List.eq_nil_of_length_eq_zero (by omega)
      subst this
      rw [List.take_of_length_le (by omega)]; simp
  have a2 : v2 = vs.drop n := by
    have e : vs.take n ++ vs.drop n = vs.take n ++ v2 := by rw [List.take_append_drop, ← a1]; exact e1
    exact (List.append_cancel_left e).symm
  subst a1 a2
  exact ⟨F1, F2, e2, h1, h2⟩
end

/-! ### the frame: which slots own what they hold -/
inductive Kd where
  | z | m | r
  deriving DecidableEq
inductive Q where
  | b | z | n (S : List Nat)
structure Cfg where
  cm : Md
  kd : Nat → Kd
  A : Addr → Prop
  H0 : Hp
  io : Addr → Prop
  W : WX
  fr : Bool
def Cfg.B (c : Cfg) (a : Addr) : Prop := c.A a ∨ c.H0 a = none
abbrev Ow := Nat → List Addr
def SOk (c : Cfg) (own : Ow) (i : Nat) (v : V) (F : List Addr) : Prop := match c.kd i with
  | .z => ∀ a ∈ F, c.B a ∧ ∀ j, a ∉ own j
  | .m => F.Nodup ∧ F = own i
  | .r => ∃ a F', v = .ref a ∧ F = a :: F' ∧ own i = [a] ∧ ∀ b ∈ F', c.B b ∧ ∀ j, b ∉ own j
structure Gd (c : Cfg) (σ : St) (H : Hp) (ρ : Env) (own : Ow) : Prop where
  len : ρ.length = σ.length
  base : ∀ b o, c.H0 b = some o → ¬ c.io b → H b = some o
  dom : ∀ b, c.H0 b ≠ none → H b ≠ none
  ownB : ∀ i a, a ∈ own i → c.B a
  ownN : ∀ i a, a ∈ own i → c.H0 a = none ∨ c.io a
  ownM : ∀ i a, a ∈ own i → ∃ o, H a = some o ∧ isMut o = true
  disj : ∀ i j a, a ∈ own i → a ∈ own j → i = j
  zer : ∀ i, i < ρ.length → c.kd i = .z → own i = []
  sp : ∃ N, ρ.length ≤ N ∧ ∀ i, N ≤ i → own i = []
  slot : ∀ i d, ρ[i]? = some (some d) → ∃ v F, σ[i]? = some (some v) ∧ Rp c.cm H v d F ∧ SOk c own i v F
def QOk (c : Cfg) (q : Q) (H : Hp) (own : Ow) (F : List Addr) : Prop := match q with
  | .b => ∀ a ∈ F, c.B a
  | .z => ∀ a ∈ F, c.B a ∧ ∀ j, a ∉ own j
  | .n S => F.Nodup ∧ ∀ a ∈ F, H a = none ∨ ∃ i ∈ S, a ∈ own i
structure Ext (H : Hp) (own : Ow) (H' : Hp) (own' : Ow) : Prop where
  keep : ∀ b o, H b = some o → (∀ j, b ∉ own j) → H' b = some o
  out : ∀ b, H b ≠ none → (∀ j, b ∉ own j) → ∀ j, b ∉ own' j
  dom : ∀ b, H b ≠ none → H' b ≠ none
section
variable {c : Cfg} {σ : St} {H H' H1 H2 : Hp} {ρ : Env} {own own' own1 own2 : Ow} {F G FF : List Addr} {q : Q}
theorem Same.dom (s : Same H H') : ∀ b, H b ≠ none → H' b ≠ none := fun b h e => by
  cases q : H b with
  | none => exact h q
  | some o => rw [s b o q] at e; cases e
theorem Same.new (s : Same H H') {a : Addr} (h : H' a = none) : H a = none := s.free h
theorem Ext.refl : Ext H own H own := ⟨fun _ _ h _ => h, fun _ _ h => h, fun _ h => h⟩
theorem Ext.trans (a : Ext H own H1 own1) (b : Ext H1 own1 H2 own2) : Ext H own H2 own2 :=
  ⟨fun x o h n => b.keep x o (a.keep x o h n) (a.out x (by rw [h]; exact Option.some_ne_none _) n), fun x h n => b.out x (a.dom x h) (a.out x h n), fun x h => b.dom x (a.dom x h)⟩
theorem Ext.ofSame (s : Same H H') : Ext H own H' own := ⟨fun b o h _ => s b o h, fun _ _ h => h, Same.dom s⟩
theorem Gd.new (g : Gd c σ H ρ own) {a : Addr} (h : H a = none) : c.H0 a = none := by
  cases q : c.H0 a with
  | none => rfl
  | some o => exact absurd h (g.dom a (by rw [q]; exact Option.some_ne_none _))
theorem Gd.newB (g : Gd c σ H ρ own) {a : Addr} (h : H a = none) : c.B a := .inr (g.new h)
theorem Gd.newOwn (g : Gd c σ H ρ own) {a : Addr} (h : H a = none) : ∀ j, a ∉ own j := fun j z => by
  obtain ⟨o, e, _⟩ := g.ownM j a z
  rw [h] at e; cases e
theorem Gd.same (g : Gd c σ H ρ own) (s : Same H H') : Gd c σ H' ρ own where
  len := g.len
  base := fun b o h n => s b o (g.base b o h n)
  dom := fun b h => Same.dom s b (g.dom b h)
  ownB := g.ownB
  ownN := g.ownN
  ownM := fun i a h => let ⟨o, e, m⟩ := g.ownM i a h; ⟨o, s a o e, m⟩
  disj := g.disj
  zer := g.zer
  sp := g.sp
  slot := fun i d h => let ⟨v, F, h1, h2, h3⟩ := g.slot i d h; ⟨v, F, h1, h2.same s, h3⟩
theorem Rp.ext {v : V} {d : D} (g : Gd c σ H ρ own) (r : Rp c.cm H v d F) (x : Ext H own H' own') (hz : ∀ a ∈ F, ∀ j, a ∉ own j) : Rp c.cm H' v d F :=
  r.mono fun b o e z => x.keep b o e fun j hj => by
    rcases z with z | z
    · exact hz b z j hj
    · obtain ⟨o', e', m⟩ := g.ownM j b hj
      rw [e] at e'; cases e'; rw [z] at m; cases m
theorem Rps.ext {v : List V} {d : List D} (g : Gd c σ H ρ own) (r : Rps c.cm H v d F) (x : Ext H own H' own') (hz : ∀ a ∈ F, ∀ j, a ∉ own j) : Rps c.cm H' v d F :=
  r.mono fun b o e z => x.keep b o e fun j hj => by
    rcases z with z | z
    · exact hz b z j hj
    · obtain ⟨o', e', m⟩ := g.ownM j b hj
      rw [e] at e'; cases e'; rw [z] at m; cases m
theorem QOk.new (s : Same H H1) (h : QOk c q H1 own F) : QOk c q H own F := by
  cases q with
  | b => exact h
  | z => exact h
  | n S => exact ⟨h.1, fun a ha => (h.2 a ha).imp (fun z => s.free z) id⟩
theorem QOk.b (g : Gd c σ H ρ own) (h : QOk c q H own F) : QOk c .b H own F := by
  cases q with
  | b => exact h
  | z => exact fun a ha => (h a ha).1
  | n S => exact fun a ha => (h.2 a ha).elim (fun z => g.newB z) fun ⟨i, _, z⟩ => g.ownB i a z
theorem QOk.z_of_n (g : Gd c σ H ρ own) (h : QOk c (.n []) H own F) : QOk c .z H own F := fun a ha => by
  rcases h.2 a ha with z | ⟨i, hi, _⟩
  · exact ⟨g.newB z, g.newOwn z⟩
  · cases hi
theorem QOk.nil : QOk c q H own [] := by
  cases q with
  | b => exact fun _ h => nomatch h
  | z => exact fun _ h => nomatch h
  | n S => exact ⟨List.nodup_nil, fun _ h => nomatch h⟩
/-- FF is made of F and of new objects -/
structure Der (H : Hp) (F FF : List Addr) : Prop where
  sub : ∀ a ∈ FF, a ∈ F ∨ H a = none
  nd : F.Nodup → (∀ a ∈ F, H a ≠ none) → FF.Nodup
theorem Der.nil : Der H F [] := ⟨(fun _ h => nomatch h), fun _ _ => List.nodup_nil⟩
theorem Der.refl : Der H F F := ⟨fun _ h => .inl h, fun h _ => h⟩
theorem Der.sublist (h : FF.Sublist F) : Der H F FF := ⟨fun _ z => .inl (h.subset z), fun n _ => h.nodup n⟩
theorem Der.cons {p : Addr} (hp : H p = none) (h : G.Sublist F) : Der H F (p :: G) := ⟨fun a z => (List.mem_cons.mp z).elim (fun e => .inr (by rw [e]; exact hp)) fun e => .inl (h.subset e), fun n t =>
  List.nodup_cons.mpr ⟨fun z => t p (h.subset z) hp, h.nodup n⟩⟩
theorem QOk.der (g : Gd c σ H ρ own) (s : Same H H1) (h : QOk c q H own F) (t : ∀ a ∈ F, H1 a ≠ none) (d : Der H1 F FF) : QOk c q H own FF := by
  cases q with
  | b => exact fun a ha => (d.sub a ha).elim (h a) fun z => g.newB (s.free z)
  | z => exact fun a ha => (d.sub a ha).elim (h a) fun z => ⟨g.newB (s.free z), g.newOwn (s.free z)⟩
  | n S => exact ⟨d.nd h.1 t, fun a ha => (d.sub a ha).elim (h.2 a) fun z => .inl (s.free z)⟩
/-- the join of two qualities -/
inductive Qj : Q → Q → Q → Prop
  | b {q q' : Q} : Qj q q' .b
  | z : Qj .z .z .z
  | zn : Qj .z (.n []) .z
  | nz : Qj (.n []) .z .z
  | n {S T : List Nat} : (∀ i ∈ S, i ∉ T) → Qj (.n S) (.n T) (.n (S ++ T))
theorem Qj.n0 : Qj (.n []) (.n []) (.n []) := .n (fun _ h => nomatch h)
theorem QOk.join {q1 q2 : Q} (j : Qj q1 q2 q) (g : Gd c σ H ρ own) (s : Same H H1) (h1 : QOk c q1 H own F) (t1 : ∀ a ∈ F, H1 a ≠ none) (h2 : QOk c q2 H1 own G) : QOk c q H own (F ++ G) := by
  have h2' := h2.new s
  cases j with
  | b => exact fun a ha => (List.mem_append.mp ha).elim (h1.b g a) (h2'.b g a)
  | z => exact fun a ha => (List.mem_append.mp ha).elim (h1 a) (h2' a)
  | zn => exact fun a ha => (List.mem_append.mp ha).elim (h1 a) (h2'.z_of_n g a)
  | nz => exact fun a ha => (List.mem_append.mp ha).elim (h1.z_of_n g a) (h2' a)
  | @n S T hST =>
    refine ⟨List.nodup_append.mpr ⟨h1.1, h2.1, fun a ha b hb e => ?_⟩, fun a ha => (List.mem_append.mp ha).elim (fun z => (h1.2 a z).imp id fun ⟨i, hi, z⟩ => ⟨i, List.mem_append_left _ hi, z⟩)
      fun z => (h2'.2 a z).imp id fun ⟨i, hi, z⟩ => ⟨i, List.mem_append_right _ hi, z⟩⟩
    subst e
    rcases h2.2 a hb with z | ⟨i, hi, z⟩
    · exact t1 a ha z
    · rcases h1.2 a ha with z' | ⟨j, hj, z'⟩
      · exact g.newOwn z' i z
      · exact hST j hj (by rw [g.disj j i a z' z]; exact hi)
end

/-! ### the readings -/
def outR {α β : Type} (c : Cfg) (q : Q) (σ : St) (H : Hp) (own : Ow) (Rel : Hp → β → α → List Addr → Prop) (r : R α) (Q : β → Hp → Prop) : Prop := match r with
  | .ok d => ∀ v H' F, Same H H' → Rel H' v d F → QOk c q H own F → Q v H'
  | .exc x => ∀ C dd H', c.cm.cm x = some C → Same H H' → c.W (.ref C) dd σ H'
  | .no => False
def RelB : Hp → Bool → Bool → List Addr → Prop := fun _ v d F => v = d ∧ F = []
def rd (c : Cfg) (q : Q) (f : Env → R D) : TE := fun σ H P => ∃ ρ own, Gd c σ H ρ own ∧ outR c q σ H own (Rp c.cm) (f ρ) P
def rdL (c : Cfg) (q : Q) (f : Env → R (List D)) : TA := fun σ H P => ∃ ρ own, Gd c σ H ρ own ∧ outR c q σ H own (Rps c.cm) (f ρ) P
def rdT (c : Cfg) (f : Env → R Bool) : TT := fun σ H P => ∃ ρ own, Gd c σ H ρ own ∧ outR c .b σ H own RelB (f ρ) P
def RQ (c : Cfg) (F : List Addr) : Prop := if c.fr = true then F.Nodup ∧ ∀ a ∈ F, c.H0 a = none else ∀ a ∈ F, c.B a
def outS (c : Cfg) (H : Hp) (own : Ow) (r : SR) (Dn : Ends) : Prop := match r with
  | .nx ρ' => ∀ σ' H' own', Gd c σ' H' ρ' own' → Ext H own H' own' → Dn.nx σ' H'
  | .bk ρ' => ∀ σ' H' own', Gd c σ' H' ρ' own' → Ext H own H' own' → Dn.bk σ' H'
  | .ct ρ' => ∀ σ' H' own', Gd c σ' H' ρ' own' → Ext H own H' own' → Dn.ct σ' H'
  | .rt d ρ' => ∀ v σ' H' own' F, Gd c σ' H' ρ' own' → Ext H own H' own' → Rp c.cm H' v d F → RQ c F → Dn.rt v H'
  | .ex x ρ' => ∀ C dd σ' H' own', c.cm.cm x = some C → Gd c σ' H' ρ' own' → Ext H own H' own' → c.W (.ref C) dd σ' H'
  | .no => False
def rdS (c : Cfg) (g : Env → SR) : TS := fun Dn σ H => ∃ ρ own, Gd c σ H ρ own ∧ outS c H own (g ρ) Dn
abbrev DE (X : Cx) (c : Cfg) (q : Q) (e : Expr) (f : Env → R D) : Prop := PE X e (rd c q f)
abbrev DA (X : Cx) (c : Cfg) (q : Q) (es : List Expr) (f : Env → R (List D)) : Prop := PA X es (rdL c q f)
abbrev DT (X : Cx) (c : Cfg) (e : Expr) (f : Env → R Bool) : Prop := PT X e (rdT c f)
abbrev DS (X : Cx) (c : Cfg) (st : Stmt) (g : Env → SR) : Prop := PS X st (rdS c g)
abbrev DSs (X : Cx) (c : Cfg) (st : List Stmt) (g : Env → SR) : Prop := PSs X st (rdS c g)
section
variable {X : Cx} {e : Expr} {es : List Expr} {st : Stmt} {sts : List Stmt} {te te' : TE} {ta ta' : TA} {tt tt' : TT} {ts ts' : TS}
theorem PE.imp (h : PE X e te) (k : ∀ σ H Q, te' σ H Q → te σ H Q) : PE X e te' := ⟨fun pins s σ H Q I z => h.run pins s σ H Q I (k _ _ _ z)⟩
theorem PA.imp (h : PA X es ta) (k : ∀ σ H Q, ta' σ H Q → ta σ H Q) : PA X es ta' := ⟨fun pos pins s σ H Q I z => h.run pos pins s σ H Q I (k _ _ _ z)⟩
theorem PT.imp (h : PT X e tt) (k : ∀ σ H Q, tt' σ H Q → tt σ H Q) : PT X e tt' := ⟨fun pins s σ H Q I z => h.run pins s σ H Q I (k _ _ _ z)⟩
theorem PS.imp (h : PS X st ts) (k : ∀ D σ H, ts' D σ H → ts D σ H) : PS X st ts' := ⟨fun pins s σ H D I z => h.run pins s σ H D I (k _ _ _ z)⟩
theorem PSs.imp (h : PSs X sts ts) (k : ∀ D σ H, ts' D σ H → ts D σ H) : PSs X sts ts' := ⟨fun pins s σ H D I z => h.run pins s σ H D I (k _ _ _ z)⟩
end
section
variable {c : Cfg} {q q1 q2 : Q} {σ : St} {H H1 : Hp} {ρ : Env} {own : Ow} {α β α' β' : Type} {Rel : Hp → β → α → List Addr → Prop} {Rel' : Hp → β' → α' → List Addr → Prop}
/-- one part, then the rest -/
theorem outR.bind {r : R α} {k : α → R α'} {P : β' → Hp → Prop} {P1 : β → Hp → Prop} (h : outR c q σ H own Rel' (r.bind k) P)
    (n : ∀ d v H1 F, r = .ok d → Same H H1 → Rel H1 v d F → QOk c q1 H own F → outR c q σ H own Rel' (k d) P → P1 v H1) : outR c q1 σ H own Rel r P1 := by
  cases r with
  | ok d => exact fun v H' F s r' o => n d v H' F rfl s r' o h
  | exc x => exact h
  | no => exact h
theorem outR.imp {r : R α} {P P' : β → Hp → Prop} (h : outR c q σ H own Rel r P) (k : ∀ v H', P v H' → P' v H') : outR c q σ H own Rel r P' := by
  cases r with
  | ok d => exact fun v H' F s r' o => k v H' (h v H' F s r' o)
  | exc x => exact h
  | no => exact h
theorem outR.later {r : R α} {P : β → Hp → Prop} (s : Same H H1) (h : outR c q σ H own Rel r P) : outR c q σ H1 own Rel r P := by
  cases r with
  | ok d => exact fun v H' F s' r' o => h v H' F (s.trans s') r' (o.new s)
  | exc x => exact fun C dd H' e s' => h C dd H' e (s.trans s')
  | no => exact h
end
end Pd
set_option Elab.async false
set_option linter.all false
set_option maxRecDepth 100000
set_option maxHeartbeats 4000000
namespace Pd
open PySem L2
/-! ### plain data -/
mutual
def toP : D → PyData
  | .tup xs => .tuple (toPs xs)
  | .lst xs => .list (toPs xs)
  | .fz _ => .none
  | .bl b => .bool b
  | .int i => .int i
  | .str x => .str x
  | .non => .none
  | .dK _ _ => .none
  | .dT _ _ => .none
  | .ins _ _ _ => .none
  | .exc _ => .none
def toPs : List D → List PyData
  | [] => []
  | d :: ds => toP d :: toPs ds
end
mutual
/-- plain, of nesting at most n -/
def shal : D → Nat → Bool
  | .tup xs, n => match n with
    | 0 => false
    | n + 1 => shals xs n
  | .lst xs, n => match n with
    | 0 => false
    | n + 1 => shals xs n
  | .fz _, _ => false
  | .bl _, _ => true
  | .int _, _ => true
  | .str _, _ => true
  | .non, _ => true
  | .dK _ _, _ => false
  | .dT _ _, _ => false
  | .ins _ _ _, _ => false
  | .exc _, _ => false
def shals : List D → Nat → Bool
  | [], _ => true
  | d :: ds, n => shal d n && shals ds n
end
theorem toPs_map : ∀ ds : List D, toPs ds = ds.map toP
  | [] => rfl
  | d :: ds => by rw [toPs, toPs_map ds]; rfl
theorem shals_all {n : Nat} : ∀ ds : List D, shals ds n = ds.all (shal · n)
  | [] => rfl
  | d :: ds => by rw [shals, shals_all ds]; rfl
mutual
theorem shal_ok : ∀ (d : D) (n : Nat), shal d n = true → (toP d).plain = true ∧ (toP d).depth ≤ n
  | .tup xs, n, h => by
    cases n with
    | zero => simp [shal] at h
    | succ n =>
      have := shals_ok xs n (by simpa [shal] using h)
      simp only [toP, PyData.plain, PyData.depth]
      exact ⟨this.1, Nat.succ_le_succ this.2⟩
  | .lst xs, n, h => by
    cases n with
    | zero => simp [shal] at h
    | succ n =>
      have := shals_ok xs n (by simpa [shal] using h)
      simp only [toP, PyData.plain, PyData.depth]
      exact ⟨this.1, Nat.succ_le_succ this.2⟩
  | .bl _, _, _ => by simp [toP, PyData.plain, PyData.depth]
  | .int _, _, _ => by simp [toP, PyData.plain, PyData.depth]
  | .str _, _, _ => by simp [toP, PyData.plain, PyData.depth]
  | .non, _, _ => by simp [toP, PyData.plain, PyData.depth]
  | .fz _, _, h => by simp [shal] at h
  | .dK _ _, _, h => by simp [shal] at h
  | .dT _ _, _, h => by simp [shal] at h
  | .ins _ _ _, _, h => by simp [shal] at h
  | .exc _, _, h => by simp [shal] at h
theorem shals_ok : ∀ (ds : List D) (n : Nat), shals ds n = true → PyData.plainAll (toPs ds) = true ∧ PyData.depthAll (toPs ds) ≤ n
  | [], _, _ => by simp [toPs, PyData.plainAll, PyData.depthAll]
  | d :: ds, n, h => by
    simp only [shals, Bool.and_eq_true] at h
    have h1 := shal_ok d n h.1
    have h2 := shals_ok ds n h.2
    simp only [toPs, PyData.plainAll, PyData.depthAll, Bool.and_eq_true]
    exact ⟨⟨h1.1, h2.1⟩, Nat.max_le.mpr ⟨h1.2, h2.2⟩⟩
end
mutual
theorem toP_inj : ∀ (d e : D) (n : Nat), shal d n = true → shal e n = true → toP d = toP e → d = e
  | .tup xs, e, n, h, h', q => by
    cases n with
    | zero => simp [shal] at h
    | succ n =>
    cases e <;> simp [toP] at q
    case tup ys => rw [toPs_inj xs ys n (by simpa [shal] using h) (by simpa [shal] using h') q]
  | .lst xs, e, n, h, h', q => by
    cases n with
    | zero => simp [shal] at h
    | succ n =>
    cases e <;> simp [toP] at q
    case lst ys => rw [toPs_inj xs ys n (by simpa [shal] using h) (by simpa [shal] using h') q]
  | .bl b, e, n, h, h', q => by cases e <;> simp [toP] at q; rw [q]
  | .int b, e, n, h, h', q => by cases e <;> simp [toP] at q; rw [q]
  | .str b, e, n, h, h', q => by cases e <;> simp [toP] at q; rw [q]
  | .non, e, n, h, h', q => by cases e <;> simp [toP, shal] at q h' ⊢
  | .fz _, _, _, h, _, _ => by simp [shal] at h
  | .dK _ _, _, _, h, _, _ => by simp [shal] at h
  | .dT _ _, _, _, h, _, _ => by simp [shal] at h
  | .ins _ _ _, _, _, h, _, _ => by simp [shal] at h
  | .exc _, _, _, h, _, _ => by simp [shal] at h
theorem toPs_inj : ∀ (d e : List D) (n : Nat), shals d n = true → shals e n = true → toPs d = toPs e → d = e
  | [], [], _, _, _, _ => rfl
  | [], e :: es, _, _, _, q => by simp [toPs] at q
  | d :: ds, [], _, _, _, q => by simp [toPs] at q
  | d :: ds, e :: es, n, h, h', q => by
    simp only [toPs, List.cons.injEq] at q
    simp only [shals, Bool.and_eq_true] at h h'
    rw [toP_inj d e n h.1 h'.1 q.1, toPs_inj ds es n h.2 h'.2 q.2]
end
section
variable {cm : Md} {H : Hp} {K : PySem.W.Frag}
mutual
theorem Rp.dp {n : Nat} {v : V} {d : D} {F : List Addr} : Rp cm H v d F → shal d n = true → Dp K H v (toP d)
  | .non, _ => by rw [toP]; exact .non
  | .bl _, _ => by rw [toP]; exact .bl _
  | .int _, _ => by rw [toP]; exact .int _
  | .str _, _ => by rw [toP]; exact .str _
  | .tup e r, h => by
    cases n with
    | zero => simp [shal] at h
    | succ n => rw [toP]; exact .tup (.of e) (Rps.dp r (by simpa [shal] using h))
  | .lst e r, h => by
    cases n with
    | zero => simp [shal] at h
    | succ n => rw [toP]; exact .lst (.of e) (Rps.dp r (by simpa [shal] using h))
  | .frz _ _, h => by simp [shal] at h
  | .dK _ _ _, h => by simp [shal] at h
  | .dT _ _ _, h => by simp [shal] at h
  | .ins _ _ _ _, h => by simp [shal] at h
theorem Rps.dp {n : Nat} {v : List V} {d : List D} {F : List Addr} : Rps cm H v d F → shals d n = true → DpAll K H v (toPs d)
  | .nil, _ => by rw [toPs]; exact .nil
  | .cons r s, h => by
    simp only [shals, Bool.and_eq_true] at h
    rw [toPs]
    exact .cons (Rp.dp r h.1) (Rps.dp s h.2)
end
/-- the items of what is walked or asked by its places: a list, a tuple -/
def itm : D → Option (List D)
  | .lst xs => some xs
  | .fz xs => some xs
  | .tup xs => some xs
  | _ => none
theorem Rp.listed {v : V} {ds : List D} {F : List Addr} (r : Rp cm H v (.lst ds) F) : ∃ a vs G, v = .ref a ∧ H a = some (.lst vs) ∧ F = a :: G ∧ Rps cm H vs ds G := by
  cases r with
  | lst e r => exact ⟨_, _, _, rfl, e, rfl, r⟩
theorem Rp.seq {v : V} {d : D} {ds : List D} {F : List Addr} (r : Rp cm H v d F) (h : itm d = some ds) : ∃ a vs G, v = .ref a ∧ (SqL cm.K H a vs ∨ SqT cm.K H a vs) ∧ G.Sublist F ∧ Rps cm H vs ds G := by
  cases r with
  | lst e r => cases h; exact ⟨_, _, _, rfl, .inl (.of e), List.sublist_cons_self _ _, r⟩
  | frz e r => cases h; exact ⟨_, _, _, rfl, .inl e.sq, List.Sublist.refl _, r⟩
  | tup e r => cases h; exact ⟨_, _, _, rfl, .inr (.of e), List.Sublist.refl _, r⟩
  | _ => cases h
theorem Rp.tupled {v : V} {ds : List D} {F : List Addr} (r : Rp cm H v (.tup ds) F) : ∃ a vs, v = .ref a ∧ SqT K H a vs ∧ Rps cm H vs ds F := by
  cases r with
  | tup e r => exact ⟨_, _, rfl, .of e, r⟩
end
/-! ### operators by their values -/
def resD (c : Cfg) (H : Hp) (F : List Addr) (r : Option D) (P : VK) : Prop := match r with
  | some d => ∀ v H' G, Same H H' → Rp c.cm H' v d G → Der H F G → P v H'
  | none => False
abbrev rOp (c : Cfg) (s : D → D → Option D) : R2 := fun x y H P => ∃ d e F G, Rp c.cm H x d F ∧ Rp c.cm H y e G ∧ resD c H (F ++ G) (s d e) P
def OpD (X : Cx) (c : Cfg) (f : Value → Value → Sem Value) (s : D → D → Option D) : Prop := OpR X f (rOp c s)
abbrev rCm (c : Cfg) (s : D → D → Option Bool) : R2 := fun x y H P => ∃ d e F G, Rp c.cm H x d F ∧ Rp c.cm H y e G ∧ ∃ b, s d e = some b ∧ P (.bl b) H
def CmD (X : Cx) (c : Cfg) (op : CmpOp) (s : D → D → Option Bool) : Prop := OpR X (compareOp op) (rCm c s)
abbrev rMt (c : Cfg) (s : List D → Option D) : List V → Hp → VK → Prop := fun xs H P => ∃ ds F, Rps c.cm H xs ds F ∧ resD c H F (s ds) P
def CallD (X : Cx) (c : Cfg) (f : Value) (s : List D → Option D) : Prop := CallR X f (rMt c s)
def ofO {α : Type} : Option α → R α
  | some a => .ok a
  | none => .no
def f2 {α : Type} (s : D → D → Option α) (fa fb : Env → R D) : Env → R α := fun ρ => (fa ρ).bind fun d => (fb ρ).bind fun e => ofO (s d e)
def f1 {α : Type} (s : D → Option α) (fa : Env → R D) : Env → R α := fun ρ => (fa ρ).bind fun d => ofO (s d)
def fS (s : List D → Option D) (fa : Env → R (List D)) : Env → R D := fun ρ => (fa ρ).bind fun ds => ofO (s ds)
def fCons (fa : Env → R D) (fr : Env → R (List D)) : Env → R (List D) := fun ρ => (fa ρ).bind fun d => (fr ρ).bind fun ds => .ok (d :: ds)
def fNil : Env → R (List D) := fun _ => .ok []
def fVar (i : Nat) : Env → R D := fun ρ => match ρ[i]? with
  | some (some d) => .ok d
  | _ => .no
def fC (d : D) : Env → R D := fun _ => .ok d
def chk (d : D) : Option D := if imm d = true then some d else none
def fImm (f : Env → R D) : Env → R D := f1 chk f
def ofB : R Bool → R D
  | .ok b => .ok (.bl b)
  | .exc x => .exc x
  | .no => .no
def fB (f : Env → R Bool) : Env → R D := fun ρ => ofB (f ρ)
def toB : D → R Bool
  | .bl b => .ok b
  | _ => .no
section
variable {X : Cx} {c : Cfg} {q q1 q2 : Q} {a b e : Expr} {es : List Expr} {pos : Pos} {f fa fb : Env → R D} {fs : Env → R (List D)}
theorem de_weak_b (h : DE X c q e f) : DE X c .b e f := PE.imp h fun σ H P ⟨ρ, own, g, o⟩ => ⟨ρ, own, g, by
  revert o
  cases f ρ with
  | ok d => exact fun o v H' F s r k => o v H' F s r (k.b g)
  | exc x => exact id
  | no => exact id⟩
theorem de_zn (h : DE X c (.n []) e f) : DE X c .z e f := PE.imp h fun σ H P ⟨ρ, own, g, o⟩ => ⟨ρ, own, g, by
  revert o
  cases f ρ with
  | ok d => exact fun o v H' F s r k => o v H' F s r (k.z_of_n g)
  | exc x => exact id
  | no => exact id⟩
/-- a value in which nothing can be written is anybody's -/
theorem de_imm (h : DE X c .b e f) : DE X c q e (fImm f) := PE.imp h fun σ H P ⟨ρ, own, g, o⟩ => ⟨ρ, own, g, by
  refine outR.bind o fun d v H1 F hd s r k o' => ?_
  unfold chk at o'
  by_cases hi : imm d = true
  · rw [if_pos hi] at o'
    exact o' v H1 F s r (by rw [r.imm hi]; exact .nil)
  · rw [if_neg hi] at o'
    exact False.elim o'⟩
/-- the same, where the function tells such values alone -/
theorem de_immf (hf : ∀ ρ d, f ρ = .ok d → imm d = true) (h : DE X c .b e f) : DE X c q e f := PE.imp h fun σ H P ⟨ρ, own, g, o⟩ => ⟨ρ, own, g, by
  have k := hf ρ
  revert o k
  cases f ρ with
  | ok d => exact fun o k v H' F s r _ => o v H' F s r (by rw [r.imm (k d rfl)]; exact .nil)
  | exc x => exact fun o _ => o
  | no => exact fun o _ => o⟩
theorem de_var {i : Nat} {x : Str} (hN : X.N[i]? = some x) (hv : Vis X.env.scope x) (hd : (x == ("__debug__" : Str)) = false) (hcd : (x == ("__classdict__" : Str)) = false) (hq : match c.kd i with
    | .z => q = .z
    | .m => q = .n [i]
    | .r => q = .b) : DE X c q (.Name x pos) (fVar i) := PE.imp (pe_var hN hv hd hcd) fun σ H P ⟨ρ, own, g, o⟩ => by
  unfold fVar at o
  cases h : ρ[i]? with
  | none => rw [h] at o; exact False.elim o
  | some d =>
    cases d with
    | none => rw [h] at o; exact False.elim o
    | some d =>
      rw [h] at o
      obtain ⟨v, F, h1, h2, h3⟩ := g.slot i d h
      refine ⟨v, h1, o v H F (Same.refl H) h2 ?_⟩
      unfold SOk at h3
      revert hq h3
      cases c.kd i with
      | z => rintro rfl h3; exact h3
      | m => rintro rfl h3; exact ⟨h3.1, fun a ha => .inr ⟨i, List.mem_singleton.mpr rfl, by rw [← h3.2]; exact ha⟩⟩
      | r =>
        rintro rfl ⟨a, F', rfl, rfl, h4, h5⟩
        intro b hb
        rcases List.mem_cons.mp hb with rfl | hb
        · exact g.ownB i _ (by rw [h4]; exact List.mem_cons_self)
        · exact (h5 b hb).1
theorem de_c {x : V} {d : D} (h : PE X e (tC x)) (hr : ∀ H, Rp c.cm H x d []) : DE X c q e (fC d) := PE.imp h fun σ H P ⟨ρ, own, g, o⟩ => o x H [] (Same.refl H) (hr H) .nil
theorem de_int {i : Int} {j : Nat} : DE X c q (.Constant (.int i) j pos) (fC (.int i)) := de_c pe_int fun _ => .int i
theorem de_bl {i : Bool} {j : Nat} : DE X c q (.Constant (.bool i) j pos) (fC (.bl i)) := de_c pe_bl fun _ => .bl i
theorem de_non {j : Nat} : DE X c q (.Constant .none j pos) (fC .non) := de_c pe_non fun _ => .non
theorem de_str {i : Str} {j : Nat} : DE X c q (.Constant (.str i) j pos) (fC (.str i)) := de_c pe_str fun _ => .str i
theorem da_nil : DA X c q [] fNil := PA.imp pa_nil fun σ H P ⟨ρ, own, g, o⟩ => o [] H [] (Same.refl H) .nil .nil
theorem da_cons (j : Qj q1 q2 q) (ha : DE X c q1 e f) (hr : DA X c q2 es fs) (hs : starEach (e :: es) X.env = (false, eval e X.env) :: starEach es X.env) : DA X c q (e :: es) (fCons f fs) :=
  PA.imp (pa_cons ha hr hs) fun σ H P ⟨ρ, own, g, o⟩ => ⟨ρ, own, g, outR.bind o fun d v H1 F hd s1 r1 k1 o1 => ⟨ρ, own, g.same s1, outR.bind (o1.later s1) fun ds vs H2 G hds s2 r2 k2 o2 => by
    rw [hds] at o1
    exact o1 (v :: vs) H2 (F ++ G) (s1.trans s2) (.cons (r1.same s2) r2) (k1.join j g s1 r1.trk k2)⟩⟩
/-- f of two values -/
theorem de_op2 {op : Operator} {s : D → D → Option D} (ho : OpD X c (binaryOp op) s) (j : Qj q1 q2 q) (ha : DE X c q1 a fa) (hb : DE X c q2 b fb) : DE X c q (.BinOp a op b pos) (f2 s fa fb) :=
  PE.imp (pe_op ho ha hb) fun σ H P ⟨ρ, own, g, o⟩ => ⟨ρ, own, g, outR.bind o fun d v H1 F hd s1 r1 k1 o1 => ⟨ρ, own, g.same s1, outR.bind (o1.later s1) fun e u H2 G he s2 r2 k2 o2 => by
    rw [he] at o1
    have r1' := r1.same s2
    refine ⟨d, e, F, G, r1', r2, ?_⟩
    revert o1
    show outR c q σ H own (Rp c.cm) (ofO (s d e)) P → _
    cases s d e with
    | some r => exact fun o1 v' H3 FF s3 r3 dr => o1 v' H3 FF ((s1.trans s2).trans s3) r3 ((k1.join j g s1 r1.trk k2).der g (s1.trans s2) (fun a ha => (List.mem_append.mp ha).elim (r1'.trk a) (r2.trk a)) dr)
    | none => exact fun o1 => False.elim o1⟩⟩
end
end Pd
set_option Elab.async false
set_option linter.all false
set_option maxRecDepth 100000
set_option maxHeartbeats 4000000
namespace Pd
open PySem L2
open PySem.W (dataLt alike lt_data le_data gt_data ge_data minD AlikeAll min_list_default min_list_data)
open PySem.SeqAt (eq_plain ne_plain in_list_data notIn_list_data)
/-! ### what the operators tell -/
def SZ : Nat := 1000000
theorem SZ_le : SZ ≤ sizeLine := by rw [sizeLine_eq]; decide
def addD : D → D → Option D
  | .int i, .int j => some (.int (i + j))
  | .str x, .str y => if x.length + y.length ≤ SZ then some (.str (x ++ y)) else none
  | .lst xs, .lst ys => if xs.length + ys.length ≤ SZ then some (.lst (xs ++ ys)) else none
  | _, _ => none
def subD : D → D → Option D
  | .int i, .int j => some (.int (i - j))
  | _, _ => none
/-- the greatest divisor, the greatest factor -/
def BIGD : Int := 10000000000000000000000000000000000000000000000000000000000000000000000000000
@[irreducible] def BIG : Int := ((2 ^ 1100000 : Nat) : Int)
theorem BIG_eq : BIG = ((2 ^ 1100000 : Nat) : Int) := by unfold BIG; rfl
def repD (xs : List D) (k : Nat) : List D := (List.replicate k xs).flatten
def mulD : D → D → Option D
  | .int i, .int j => if -BIG < i ∧ i < BIG ∧ -BIG < j ∧ j < BIG then some (.int (i * j)) else none
  | .lst xs, .int k => if immAll xs = true ∧ 0 ≤ k ∧ k ≤ 1000000 ∧ xs.length * k.toNat ≤ SZ then some (.lst (repD xs k.toNat)) else none
  | _, _ => none
def divD : D → D → Option D
  | .int i, .int j => if 0 < j ∧ j < BIGD then some (.int (i / j)) else none
  | _, _ => none
def modD : D → D → Option D
  | .int i, .int j => if 0 < j then some (.int (i % j)) else none
  | _, _ => none
def powD : D → D → Option D
  | .int i, .int j => if 0 ≤ j ∧ j ≤ 1000 ∧ -1000000000000 < i ∧ i < 1000000000000 then some (.int (i ^ j.toNat)) else none
  | _, _ => none
def negD : D → Option D
  | .int i => some (.int (-i))
  | _ => none
theorem upd_newSame {H : Hp} {p : Addr} {o : HO} (h : H p = none) : Same H (upd H p o) := fun b u e => by rw [upd_ne (ne_of_none e h)]; exact e
section
variable {X : Cx} {c : Cfg}
theorem natAbs_big {i : Int} (h1 : -BIGD < i) (h2 : i < BIGD) : i.natAbs < 2 ^ 256 := by
  have : (BIGD : Int) ≤ 2 ^ 256 := by decide
  have h3 : (i.natAbs : Int) < 2 ^ 256 := by omega
  exact_mod_cast h3
theorem natAbs_BIG {i : Int} (h1 : -BIG < i) (h2 : i < BIG) : i.natAbs < 2 ^ 1100000 := by
  rw [BIG_eq] at h1 h2
  generalize (2 ^ 1100000 : Nat) = N at h1 h2 ⊢
  omega
theorem mul_BIG {i j : Int} (h1 : -BIG < i) (h2 : i < BIG) (h3 : -BIG < j) (h4 : j < BIG) : IntMulOk i j := by
  have b : ∀ x : Int, Builtin.Int.intBits x ≤ x.natAbs.log2 + 1 := fun x => by
    unfold Builtin.Int.intBits
    split <;> omega
  have k1 := b i
  have k2 := b j
  have l1 := PySem.Flt.log2_lt_of (by decide) (natAbs_BIG h1 h2)
  have l2 := PySem.Flt.log2_lt_of (by decide) (natAbs_BIG h3 h4)
  have e : bitsLine = 134217728 := by decide
  unfold IntMulOk
  intro z
  rw [Bool.and_eq_true] at z
  have z2 := z.2
  unfold Builtin.Int.intTooBig at z2
  have z3 := of_decide_eq_true z2
  rw [e] at z3
  omega
theorem op_mulB : OpR X (binaryOp .Mult) (rI (fun i j => -BIG < i ∧ i < BIG ∧ -BIG < j ∧ j < BIG) fun i j => .int (i * j)) := opI fun _ _ _ _ _ _ _ hc q => PyProof.Rows.mul_int q (mul_BIG hc.1 hc.2.1 hc.2.2.1 hc.2.2.2)
theorem opd_add : OpD X c (binaryOp .Add) addD := by
  intro pins s σ H x y v u P I rx ry h
  obtain ⟨d, e, F, G, r1, r2, h⟩ := h
  unfold addD at h
  split at h
  · cases r1; cases r2
    exact op_add pins s σ H _ _ v u P I rx ry ⟨_, _, rfl, rfl, h _ H [] (Same.refl H) (.int _) .nil⟩
  · cases r1; cases r2
    split at h
    · rename_i hl
      exact op_add_str pins s σ H _ _ v u P I rx ry ⟨_, _, rfl, rfl, Nat.le_trans hl SZ_le, h _ H [] (Same.refl H) (.str _) .nil⟩
    · exact False.elim h
  · obtain ⟨a, vs, F', rfl, ha, rfl, ra⟩ := r1.listed
    obtain ⟨b, ws, G', rfl, hb, rfl, rb⟩ := r2.listed
    split at h
    · rename_i hl
      rw [← ra.length, ← rb.length] at hl
      refine op_cat pins s σ H _ _ v u P I rx ry ⟨_, _, _, _, rfl, rfl, ha, hb, Nat.le_trans hl SZ_le, fun p hp => ?_⟩
      have sm := upd_newSame (o := .lst (vs ++ ws)) hp
      exact h _ _ (p :: (F' ++ G')) sm (.lst upd_same ((ra.same sm).append (rb.same sm))) (.cons hp ((List.sublist_cons_self _ _).append (List.sublist_cons_self _ _)))
    · exact False.elim h
  · exact False.elim h
theorem opd_sub : OpD X c (binaryOp .Sub) subD := by
  intro pins s σ H x y v u P I rx ry h
  obtain ⟨d, e, F, G, r1, r2, h⟩ := h
  unfold subD at h
  split at h
  · cases r1; cases r2
    exact op_sub pins s σ H _ _ v u P I rx ry ⟨_, _, rfl, rfl, h _ H [] (Same.refl H) (.int _) .nil⟩
  · exact False.elim h
theorem Rps.rep {cm : Md} {H : Hp} {vs : List V} {ds : List D} (r : Rps cm H vs ds []) : ∀ k : Nat, Rps cm H (List.replicate k vs).flatten (repD ds k) []
  | 0 => by simpa [repD] using Rps.nil
  | k + 1 => by
    have := r.append (Rps.rep r k)
    simpa [repD, List.replicate_succ] using this
theorem opd_mul : OpD X c (binaryOp .Mult) mulD := by
  intro pins s σ H x y v u P I rx ry h
  obtain ⟨d, e, F, G, r1, r2, h⟩ := h
  unfold mulD at h
  split at h
  · cases r1; cases r2
    split at h
    · rename_i hl
      exact op_mulB pins s σ H _ _ v u P I rx ry ⟨_, _, rfl, rfl, hl, h _ H [] (Same.refl H) (.int _) .nil⟩
    · exact False.elim h
  · obtain ⟨a, vs, F', rfl, ha, rfl, ra⟩ := r1.listed
    cases r2
    split at h
    · rename_i hl
      obtain ⟨hi, h0, h1, h2⟩ := hl
      have hF := ra.imm hi
      subst hF
      rw [← ra.length] at h2
      refine op_rep pins s σ H _ _ v u P I rx ry ⟨_, _, _, rfl, rfl, ha, by omega, by omega, Nat.le_trans h2 SZ_le, fun p hp => ?_⟩
      rename_i k
      have sm := upd_newSame (o := .lst (List.replicate k.toNat vs).flatten) hp
      exact h _ _ [p] sm (.lst upd_same ((ra.rep _).same sm)) (.cons hp (List.nil_sublist _))
    · exact False.elim h
  · exact False.elim h
theorem opd_div : OpD X c (binaryOp .FloorDiv) divD := by
  intro pins s σ H x y v u P I rx ry h
  obtain ⟨d, e, F, G, r1, r2, h⟩ := h
  unfold divD at h
  split at h
  · cases r1; cases r2
    split at h
    · rename_i hl
      exact op_fdivW pins s σ H _ _ v u P I rx ry ⟨_, _, rfl, rfl, wide_div hl.1 (natAbs_big (Int.lt_trans (by decide) hl.1) hl.2) (by decide) (by decide), h _ H [] (Same.refl H) (.int _) .nil⟩
    · exact False.elim h
  · exact False.elim h
theorem opd_mod : OpD X c (binaryOp .Mod) modD := by
  intro pins s σ H x y v u P I rx ry h
  obtain ⟨d, e, F, G, r1, r2, h⟩ := h
  unfold modD at h
  split at h
  · cases r1; cases r2
    split at h
    · rename_i hl
      exact op_mod pins s σ H _ _ v u P I rx ry ⟨_, _, rfl, rfl, hl, h _ H [] (Same.refl H) (.int _) .nil⟩
    · exact False.elim h
  · exact False.elim h
theorem opd_pow : OpD X c (binaryOp .Pow) powD := by
  intro pins s σ H x y v u P I rx ry h
  obtain ⟨d, e, F, G, r1, r2, h⟩ := h
  unfold powD at h
  split at h
  · cases r1; cases r2
    split at h
    · rename_i hl
      exact op_pow pins s σ H _ _ v u P I rx ry ⟨_, _, rfl, rfl, ⟨hl.1, by omega, by omega⟩, h _ H [] (Same.refl H) (.int _) .nil⟩
    · exact False.elim h
  · exact False.elim h
end
/-! ### comparisons -/
def eqD (d e : D) : Option Bool := if (shal d 12 && shal e 12) = true then some (PyData.eqv (toP d) (toP e)) else none
def neD (d e : D) : Option Bool := if (shal d 12 && shal e 12) = true then some (!PyData.eqv (toP d) (toP e)) else none
def isNon : D → Bool
  | .non => true
  | _ => false
def ltOk (d e : D) : Bool := shal d 12 && shal e 12 && alike (toP d) (toP e) && !isNon d
def ltD : D → D → Option Bool
  | .int i, .int j => some (decide (i < j))
  | d, e => if ltOk d e = true then some (dataLt (toP d) (toP e)) else none
def leD : D → D → Option Bool
  | .int i, .int j => some (decide (i ≤ j))
  | d, e => if ltOk d e = true then some (!dataLt (toP e) (toP d)) else none
def gtD : D → D → Option Bool
  | .int i, .int j => some (decide (j < i))
  | d, e => if ltOk d e = true then some (dataLt (toP e) (toP d)) else none
def geD : D → D → Option Bool
  | .int i, .int j => some (decide (j ≤ i))
  | d, e => if ltOk d e = true then some (!dataLt (toP d) (toP e)) else none
def isD : D → D → Option Bool
  | d, .non => some (isNon d)
  | .bl a, .bl b => some (a == b)
  | _, _ => none
def isnotD : D → D → Option Bool
  | d, .non => some (!isNon d)
  | .bl a, .bl b => some (a != b)
  | _, _ => none
def inD : D → D → Option Bool
  | d, .dK ks _ => match keyOf d with
    | some k => some (ks.any fun j => decide (j = k))
    | none => none
  | .tup ds, .dT ks _ => match keysOf ds with
    | some k => some (ks.any fun j => decide (j = k))
    | none => none
  | d, .lst ys => if (shal d 12 && shals ys 12) = true then some (ys.any fun y => PyData.eqv (toP y) (toP d)) else none
  | _, _ => none
def notinD (d e : D) : Option Bool := (inD d e).map fun b => !b
section
variable {X : Cx} {c : Cfg}
theorem shal_room {d : D} {n : Nat} (hu : X.A.units + 64 < cLine) (hn : n ≤ 12) (h : shal d n = true) (k : Nat) : X.A.units + 1 + min k (toP d).depth < cLine := by
  have := (shal_ok d n h).2
  have : min k (toP d).depth ≤ 12 := by omega
  omega
theorem cmd_eq (hu : X.A.units + 64 < cLine) : CmD X c .Eq eqD := by
  intro pins s σ H x y v u P I rx ry h
  obtain ⟨d, e, F, G, r1, r2, b, h, q⟩ := h
  unfold eqD at h
  split at h
  · rename_i hs
    rw [Bool.and_eq_true] at hs
    cases h
    obtain ⟨as, t1⟩ := Dp.reads I _ x v (r1.dp hs.1) rx
    obtain ⟨bs, t2⟩ := Dp.reads I _ y u (r2.dp hs.2) ry
    exact eq_plain t1 t2 (shal_ok _ _ hs.1).1 (shal_ok _ _ hs.2).1 (by have := shal_room hu (Nat.le_refl _) hs.2 (toP d).depth; omega) ⟨.bl _, H, I, rfl, q⟩
  · cases h
theorem cmd_ne (hu : X.A.units + 64 < cLine) : CmD X c .NotEq neD := by
  intro pins s σ H x y v u P I rx ry h
  obtain ⟨d, e, F, G, r1, r2, b, h, q⟩ := h
  unfold neD at h
  split at h
  · rename_i hs
    rw [Bool.and_eq_true] at hs
    cases h
    obtain ⟨as, t1⟩ := Dp.reads I _ x v (r1.dp hs.1) rx
    obtain ⟨bs, t2⟩ := Dp.reads I _ y u (r2.dp hs.2) ry
    exact ne_plain t1 t2 (shal_ok _ _ hs.1).1 (shal_ok _ _ hs.2).1 (by have := shal_room hu (Nat.le_refl _) hs.2 (toP d).depth; omega) ⟨.bl _, H, I, rfl, q⟩
  · cases h
theorem ltOk_ok {d e : D} (h : ltOk d e = true) : shal d 12 = true ∧ shal e 12 = true ∧ alike (toP d) (toP e) = true ∧ toP d ≠ .none := by
  simp only [ltOk, Bool.and_eq_true, Bool.not_eq_true'] at h
  obtain ⟨⟨⟨h1, h2⟩, h3⟩, h4⟩ := h
  refine ⟨h1, h2, h3, fun z => ?_⟩
  cases d <;> simp [toP, isNon, shal] at z h4 h1
theorem cmd_ord {op : CmpOp} {s : D → D → Option Bool} {fi : Int → Int → Bool} {fd : PyData → PyData → Bool} (hs : ∀ d e b, s d e = some b → (∃ i j, d = .int i ∧ e = .int j ∧ b = fi i j) ∨ (ltOk d e = true ∧ b = fd (toP d) (toP e)))
    (hi : OpR X (compareOp op) (rI0 fun i j => .bl (fi i j)))
    (hd : ∀ {s : Shared} {a b : Value} {da db : PyData} {as bs : List Addr} {Q E : Value → Shared → Prop}, Reads s.heap a da as → Reads s.heap b db bs → alike da db = true → da ≠ .none → X.A.units + min da.depth db.depth < cLine → Q (.bool (fd da db)) s →
      wpAny (model X.prog X.w) X.A (compareOp op a b) Q E s) (hu : X.A.units + 64 < cLine) : CmD X c op s := by
  intro pins s σ H x y v u P I rx ry h
  obtain ⟨d, e, F, G, r1, r2, b, h, q⟩ := h
  rcases hs d e b h with ⟨i, j, rfl, rfl, rfl⟩ | ⟨ho, rfl⟩
  · cases r1; cases r2
    exact hi pins s σ H _ _ v u P I rx ry ⟨_, _, rfl, rfl, q⟩
  · obtain ⟨h1, h2, h3, h4⟩ := ltOk_ok ho
    obtain ⟨as, t1⟩ := Dp.reads I _ x v (r1.dp h1) rx
    obtain ⟨bs, t2⟩ := Dp.reads I _ y u (r2.dp h2) ry
    exact hd t1 t2 h3 h4 (by have := shal_room hu (Nat.le_refl _) h2 (toP d).depth; omega) ⟨.bl _, H, I, rfl, q⟩
theorem cmd_lt (hu : X.A.units + 64 < cLine) : CmD X c .Lt ltD := cmd_ord (fi := fun i j => decide (i < j)) (fd := fun d e => dataLt d e) (fun d e b h => by
  unfold ltD at h
  split at h
  · cases h; exact .inl ⟨_, _, rfl, rfl, rfl⟩
  · split at h
    · cases h; exact .inr ⟨by assumption, rfl⟩
    · cases h) op_lt (fun a b c d e f => lt_data a b c d e f) hu
theorem cmd_le (hu : X.A.units + 64 < cLine) : CmD X c .LtE leD := cmd_ord (fi := fun i j => decide (i ≤ j)) (fd := fun d e => !dataLt e d) (fun d e b h => by
  unfold leD at h
  split at h
  · cases h; exact .inl ⟨_, _, rfl, rfl, rfl⟩
  · split at h
    · cases h; exact .inr ⟨by assumption, rfl⟩
    · cases h) op_le (fun a b c d e f => le_data a b c d e f) hu
theorem cmd_gt (hu : X.A.units + 64 < cLine) : CmD X c .Gt gtD := cmd_ord (fi := fun i j => decide (j < i)) (fd := fun d e => dataLt e d) (fun d e b h => by
  unfold gtD at h
  split at h
  · cases h; exact .inl ⟨_, _, rfl, rfl, rfl⟩
  · split at h
    · cases h; exact .inr ⟨by assumption, rfl⟩
    · cases h) op_gt (fun a b c d e f => gt_data a b c d e f) hu
theorem cmd_ge (hu : X.A.units + 64 < cLine) : CmD X c .GtE geD := cmd_ord (fi := fun i j => decide (j ≤ i)) (fd := fun d e => !dataLt d e) (fun d e b h => by
  unfold geD at h
  split at h
  · cases h; exact .inl ⟨_, _, rfl, rfl, rfl⟩
  · split at h
    · cases h; exact .inr ⟨by assumption, rfl⟩
    · cases h) op_ge (fun a b c d e f => ge_data a b c d e f) hu
theorem Rp.isNon {cm : Md} {H : Hp} {v : V} {d : D} {F : List Addr} (r : Rp cm H v d F) : decide (v = .non) = Pd.isNon d := by
  cases r <;> simp [Pd.isNon]
theorem cmd_is : CmD X c .Is isD := by
  intro pins s σ H x y v u P I rx ry h
  obtain ⟨d, e, F, G, r1, r2, b, h, q⟩ := h
  unfold isD at h
  split at h
  · cases h
    cases r2
    exact op_isN pins s σ H _ _ v u P I rx ry ⟨rfl, by rw [r1.isNon]; exact q⟩
  · cases h
    cases r1; cases r2; cases rx; cases ry
    exact PyProof.Rows.is_bool ⟨.bl _, H, I, rfl, q⟩
  · cases h
theorem cmd_isnot : CmD X c .IsNot isnotD := by
  intro pins s σ H x y v u P I rx ry h
  obtain ⟨d, e, F, G, r1, r2, b, h, q⟩ := h
  unfold isnotD at h
  split at h
  · cases h
    cases r2
    exact op_notN pins s σ H _ _ v u P I rx ry ⟨rfl, by rw [r1.isNon]; exact q⟩
  · cases h
    cases r1; cases r2; cases rx; cases ry
    exact PyProof.Rows.isnot_bool ⟨.bl _, H, I, rfl, q⟩
  · cases h
/-! ### keys -/
theorem Rp.key {cm : Md} {H : Hp} {v : V} {d : D} {F : List Addr} {k : Key} (r : Rp cm H v d F) (h : keyOf d = some k) : v = kV k := by
  cases r <;> cases h <;> rfl
theorem Rps.keys {cm : Md} {H : Hp} {vs : List V} {ds : List D} {F : List Addr} {k : List Key} (r : Rps cm H vs ds F) (h : keysOf ds = some k) : vs = k.map kV := by
  induction ds generalizing vs F k with
  | nil => cases r; cases h; rfl
  | cons d ds ih =>
    cases r with
    | cons r s =>
      unfold keysOf at h
      split at h
      · rename_i h1 h2
        cases h
        rw [r.key h1, ih s h2]
        rfl
      · cases h
theorem any_map_fst {κ : Type} [DecidableEq κ] (kvs : List (κ × V)) (k : κ) : ((kvs.map (·.1)).any fun j => decide (j = k)) = (valV kvs k).isSome := by
  rw [← valV_any, List.any_map]
  rfl
theorem in_dict {H : Hp} {x y : V} {d e : D} {F G : List Addr} {b : Bool} (r1 : Rp c.cm H x d F) (r2 : Rp c.cm H y e G) (h : inD d e = some b) (hl : ∀ ys, e ≠ .lst ys) : ∃ a o, y = .ref a ∧ DGet H a x o ∧ o.isSome = b := by
  unfold inD at h
  split at h
  · split at h
    · rename_i hk
      cases h
      cases r2 with
      | dK e1 e2 r =>
        subst e2
        rw [r1.key hk, any_map_fst]
        exact ⟨_, _, rfl, .k e1, rfl⟩
    · cases h
  · split at h
    · rename_i hk
      cases h
      cases r2 with
      | dT e1 e2 r =>
        subst e2
        cases r1 with
        | tup e3 r3 =>
          rw [any_map_fst]
          rw [r3.keys hk] at e3
          exact ⟨_, _, rfl, .t e1 e3, rfl⟩
    · cases h
  · exact absurd rfl (hl _)
  · cases h
theorem cmd_in (hu : X.A.units + 64 < cLine) : CmD X c .In inD := by
  intro pins s σ H x y v u P I rx ry h
  obtain ⟨d, e, F, G, r1, r2, b, h, q⟩ := h
  by_cases hl : ∃ ys, e = .lst ys
  · obtain ⟨ys, rfl⟩ := hl
    have h' : (if (shal d 12 && shals ys 12) = true then some (ys.any fun y => PyData.eqv (toP y) (toP d)) else none) = some b := by
      unfold inD at h
      split at h <;> first | (rename_i z _; cases z; done) | (rename_i z; cases z; done) | exact h | skip
      all_goals first | exact h | (simp_all; done)
    split at h'
    · rename_i hs
      rw [Bool.and_eq_true] at hs
      cases h'
      have hs2 : shal (.lst ys) 13 = true := by simpa [shal] using hs.2
      obtain ⟨as, t1⟩ := Dp.reads I _ x v (r1.dp hs.1) rx
      obtain ⟨bs, t2⟩ := Dp.reads I _ y u (r2.dp hs2) ry
      rw [toP] at t2
      refine in_list_data t2 t1 (shals_ok ys 12 hs.2).1 (shal_ok _ _ hs.1).1 (shal_room hu (Nat.le_refl _) hs.1 _) ⟨.bl _, H, I, rfl, ?_⟩
      rw [toPs_map, List.any_map]
      exact q
    · cases h'
  · obtain ⟨a, o, rfl, g, rfl⟩ := in_dict r1 r2 h fun ys z => hl ⟨ys, z⟩
    cases ry
    exact d_in (by omega) I g rx fun s' I' => ⟨.bl _, H, I', rfl, q⟩
theorem cmd_notin (hu : X.A.units + 64 < cLine) : CmD X c .NotIn notinD := by
  intro pins s σ H x y v u P I rx ry h
  obtain ⟨d, e, F, G, r1, r2, b, h, q⟩ := h
  unfold notinD at h
  obtain ⟨b', hin, rfl⟩ := Option.map_eq_some_iff.mp h
  clear h
  have h := hin
  clear hin
  by_cases hl : ∃ ys, e = .lst ys
  · obtain ⟨ys, rfl⟩ := hl
    have h' : (if (shal d 12 && shals ys 12) = true then some (ys.any fun y => PyData.eqv (toP y) (toP d)) else none) = some b' := by
      unfold inD at h
      split at h <;> first | (rename_i z _; cases z; done) | (rename_i z; cases z; done) | exact h | skip
      all_goals first | exact h | (simp_all; done)
    split at h'
    · rename_i hs
      rw [Bool.and_eq_true] at hs
      cases h'
      have hs2 : shal (.lst ys) 13 = true := by simpa [shal] using hs.2
      obtain ⟨as, t1⟩ := Dp.reads I _ x v (r1.dp hs.1) rx
      obtain ⟨bs, t2⟩ := Dp.reads I _ y u (r2.dp hs2) ry
      rw [toP] at t2
      refine notIn_list_data t2 t1 (shals_ok ys 12 hs.2).1 (shal_ok _ _ hs.1).1 (shal_room hu (Nat.le_refl _) hs.1 _) ⟨.bl _, H, I, rfl, ?_⟩
      rw [toPs_map, List.any_map]
      exact q
    · cases h'
  · obtain ⟨a, o, rfl, g, rfl⟩ := in_dict r1 r2 h fun ys z => hl ⟨ys, z⟩
    cases ry
    exact d_notIn (by omega) I g rx fun s' I' => ⟨.bl _, H, I', rfl, q⟩
end
end Pd
set_option Elab.async false
set_option linter.all false
set_option maxRecDepth 100000
set_option maxHeartbeats 4000000
namespace Pd
open PySem L2
open PySem.W (dataLt alike minD AlikeAll min_list_default min_list_data)
/-! ### tests -/
def fChain (s s' : D → D → Option Bool) (fa fb fc : Env → R D) : Env → R Bool := fun ρ => (fa ρ).bind fun d => (fb ρ).bind fun e => (ofO (s d e)).bind fun b => if b = true then (fc ρ).bind fun g => ofO (s' e g) else .ok false
def tAndF (fa fb : Env → R Bool) : Env → R Bool := fun ρ => (fa ρ).bind fun b => if b = true then fb ρ else .ok false
def tOrF (fa fb : Env → R Bool) : Env → R Bool := fun ρ => (fa ρ).bind fun b => if b = true then .ok true else fb ρ
def tNotF (fa : Env → R Bool) : Env → R Bool := fun ρ => (fa ρ).bind fun b => .ok (!b)
def fIf (ft : Env → R Bool) (fa fb : Env → R D) : Env → R D := fun ρ => (ft ρ).bind fun b => if b = true then fa ρ else fb ρ
def fAndV (fa fb : Env → R D) : Env → R D := fun ρ => (fa ρ).bind fun d => (toB d).bind fun b => if b = true then fb ρ else .ok (.bl false)
def fOrV (fa fb : Env → R D) : Env → R D := fun ρ => (fa ρ).bind fun d => (toB d).bind fun b => if b = true then .ok (.bl true) else fb ρ
def fNotV (fa : Env → R D) : Env → R D := fun ρ => (fa ρ).bind fun d => (toB d).bind fun b => .ok (.bl (!b))
def fT (f : Env → R D) : Env → R Bool := fun ρ => (f ρ).bind toB
section
variable {X : Cx} {c : Cfg} {q q1 q2 q3 qa : Q} {a b e e3 : Expr} {es : List Expr} {pos : Pos} {f fa fb fc : Env → R D} {fs : Env → R (List D)} {ta tb tt : Env → R Bool} {s s' : D → D → Option Bool} {op op' : CmpOp}
abbrev DW (X : Cx) (c : Cfg) (e : Expr) (f : Env → R Bool) : Prop := PW X e (rdT c f)
theorem ofB_out {σ : St} {H : Hp} {own : Ow} {r : R Bool} {P : VK} (h : outR c q σ H own (Rp c.cm) (ofB r) P) : outR c .b σ H own RelB r (fun b H' => P (.bl b) H') := by
  cases r with
  | ok b => exact fun v H' F sm ⟨e1, e2⟩ k => by subst e1 e2; exact h _ H' [] sm (.bl _) .nil
  | exc x => exact h
  | no => exact h
theorem cmp_core {σ : St} {H : Hp} {ρ : Env} {own : Ow} {P : Bool → Hp → Prop} (g : Gd c σ H ρ own) (o : outR c .b σ H own RelB (f2 s fa fb ρ) P) :
    tOp (rCm c s) (rd c q1 fa) (rd c q2 fb) σ H (fun x H' => ∃ b, x = .bl b ∧ P b H') :=
  ⟨ρ, own, g, outR.bind o fun d v H1 F hd s1 r1 k1 o1 => ⟨ρ, own, g.same s1, outR.bind (o1.later s1) fun e u H2 G he s2 r2 k2 o2 => by
    have r1' := r1.same s2
    revert o2
    cases hs : s d e with
    | some b => exact fun o2 => ⟨d, e, F, G, r1', r2, b, hs, b, rfl, o2 b H2 [] s2 ⟨rfl, rfl⟩ .nil⟩
    | none => exact fun o2 => False.elim o2⟩⟩
theorem dt_cmp (ho : CmD X c op s) (ha : DE X c q1 a fa) (hb : DE X c q2 b fb) (hm : behindInMarks op b = false) : DT X c (.Compare a [op] [b] pos) (f2 s fa fb) :=
  PT.imp (pt_cmpR ho ha hb hm) fun σ H P ⟨ρ, own, g, o⟩ => cmp_core g o
theorem de_cmp (ho : CmD X c op s) (ha : DE X c q1 a fa) (hb : DE X c q2 b fb) (hm : behindInMarks op b = false) : DE X c q (.Compare a [op] [b] pos) (fB (f2 s fa fb)) :=
  PE.imp (pe_cmpR ho ha hb hm) fun σ H P ⟨ρ, own, g, o⟩ => by
    have := cmp_core (q1 := q1) (q2 := q2) g (ofB_out o)
    obtain ⟨ρ1, own1, g1, o1⟩ := this
    refine ⟨ρ1, own1, g1, outR.imp o1 fun v H1 h => ?_⟩
    obtain ⟨ρ2, own2, g2, o2⟩ := h
    refine ⟨ρ2, own2, g2, outR.imp o2 fun v H1 h => ?_⟩
    obtain ⟨d, e, F, G, r1, r2, b, h1, b', h2, h3⟩ := h
    cases h2
    exact ⟨d, e, F, G, r1, r2, b, h1, h3⟩
theorem chain_core {σ : St} {H : Hp} {ρ : Env} {own : Ow} {P : Bool → Hp → Prop} (g : Gd c σ H ρ own) (o : outR c .b σ H own RelB (fChain s s' fa fb fc ρ) P) :
    tChain (rCm c s) (rCm c s') (rd c q1 fa) (rd c q2 fb) (rd c q3 fc) σ H (fun x H' => ∃ b, x = .bl b ∧ P b H') :=
  ⟨ρ, own, g, outR.bind o fun d v H1 F hd s1 r1 k1 o1 => ⟨ρ, own, g.same s1, outR.bind (o1.later s1) fun e u H2 G he s2 r2 k2 o2 => by
    have r1' := r1.same s2
    revert o2
    cases hs : s d e with
    | none => exact fun o2 => False.elim o2
    | some b =>
      intro o2
      refine ⟨d, e, F, G, r1', r2, b, hs, b, rfl, ?_⟩
      have o3 : outR c .b σ H1 own RelB (if b = true then (fc ρ).bind fun g => ofO (s' e g) else .ok false) P := o2
      cases b with
      | false =>
        rw [if_neg Bool.false_ne_true] at o3 ⊢
        exact ⟨_, rfl, o3 false H2 [] s2 ⟨rfl, rfl⟩ .nil⟩
      | true =>
        rw [if_pos rfl] at o3 ⊢
        refine ⟨ρ, own, (g.same s1).same s2, outR.bind (o3.later s2) fun z w' H3 G3 hz s3 r3 k3 o4 => ?_⟩
        revert o4
        cases hs' : s' e z with
        | none => exact fun o4 => False.elim o4
        | some b' => exact fun o4 => ⟨e, z, G, G3, r2.same s3, r3, b', hs', b', rfl, o4 b' H3 [] s3 ⟨rfl, rfl⟩ .nil⟩⟩⟩
theorem dt_chain (ho : CmD X c op s) (ho' : CmD X c op' s') (ha : DE X c q1 a fa) (hb : DE X c q2 b fb) (hc : DE X c q3 e fc) (hm : lastMarks [op, op'] [b, e] = false) : DT X c (.Compare a [op, op'] [b, e] pos) (fChain s s' fa fb fc) :=
  PT.imp (pt_chain ho ho' ha hb hc hm) fun σ H P ⟨ρ, own, g, o⟩ => chain_core g o
theorem chain_mono {r r' : R2} {t1 t2 t3 : TE} {σ : St} {H : Hp} {P P' : VK} (h1 : ∀ σ H Q Q', (∀ v H', Q v H' → Q' v H') → t1 σ H Q → t1 σ H Q') (h2 : ∀ σ H Q Q', (∀ v H', Q v H' → Q' v H') → t2 σ H Q → t2 σ H Q') (h3 : ∀ σ H Q Q', (∀ v H', Q v H' → Q' v H') → t3 σ H Q → t3 σ H Q')
    (hr : ∀ x y H Q Q', (∀ v H', Q v H' → Q' v H') → r x y H Q → r x y H Q') (hr' : ∀ x y H Q Q', (∀ v H', Q v H' → Q' v H') → r' x y H Q → r' x y H Q') (k : ∀ v H', P v H' → P' v H') (h : tChain r r' t1 t2 t3 σ H P) : tChain r r' t1 t2 t3 σ H P' :=
  h1 _ _ _ _ (fun x H1 => h2 _ _ _ _ fun y H2 => hr _ _ _ _ _ fun z H3 ⟨b, e, hb⟩ => ⟨b, e, by
    cases b with
    | true =>
      rw [if_pos rfl] at hb ⊢
      exact h3 _ _ _ _ (fun w' H4 => hr' _ _ _ _ _ k) hb
    | false =>
      rw [if_neg Bool.false_ne_true] at hb ⊢
      exact k _ _ hb⟩) h
theorem rd_mono {f : Env → R D} (σ : St) (H : Hp) (Q Q' : VK) (k : ∀ v H', Q v H' → Q' v H') (h : rd c q f σ H Q) : rd c q f σ H Q' := let ⟨ρ, own, g, o⟩ := h; ⟨ρ, own, g, outR.imp o k⟩
theorem rCm_mono (x y : V) (H : Hp) (Q Q' : VK) (k : ∀ v H', Q v H' → Q' v H') (h : rCm c s x y H Q) : rCm c s x y H Q' := let ⟨d, e, F, G, r1, r2, b, hs, z⟩ := h; ⟨d, e, F, G, r1, r2, b, hs, k _ _ z⟩
theorem de_chain (ho : CmD X c op s) (ho' : CmD X c op' s') (ha : DE X c q1 a fa) (hb : DE X c q2 b fb) (hc : DE X c q3 e fc) (hm : lastMarks [op, op'] [b, e] = false) : DE X c q (.Compare a [op, op'] [b, e] pos) (fB (fChain s s' fa fb fc)) :=
  PE.imp (pe_chain ho ho' ha hb hc hm) fun σ H P ⟨ρ, own, g, o⟩ => chain_mono rd_mono rd_mono rd_mono rCm_mono rCm_mono (fun v H' ⟨b, e, h⟩ => by subst e; exact h) (chain_core (q1 := q1) (q2 := q2) (q3 := q3) g (ofB_out o))
theorem dt_val (h : DE X c qa e f) (he : ∀ whole, isTrue e X.env whole = (do let v ← whole; standAt e.pos; holding [v] (truthy v))) : DT X c e (fT f) :=
  PT.imp (pt_val h he) fun σ H P ⟨ρ, own, g, o⟩ => ⟨ρ, own, g, outR.bind o fun d v H1 F hd s1 r1 k1 o1 => by
    revert o1
    unfold toB
    split
    · intro o1
      cases r1
      exact ⟨_, rfl, o1 _ H1 [] s1 ⟨rfl, rfl⟩ .nil⟩
    · exact fun o1 => False.elim o1⟩
theorem tbind {σ : St} {H : Hp} {ρ : Env} {own : Ow} {r : R Bool} {k : Bool → R Bool} {P : Bool → Hp → Prop} (g : Gd c σ H ρ own) (o : outR c .b σ H own RelB (r.bind k) P) {P1 : Bool → Hp → Prop}
    (n : ∀ b H1, Same H H1 → Gd c σ H1 ρ own → outR c .b σ H1 own RelB (k b) P → P1 b H1) : outR c .b σ H own RelB r P1 :=
  outR.bind o fun d v H1 F hd s1 r1 k1 o1 => by
    obtain ⟨e1, e2⟩ := r1
    subst e1
    exact n _ H1 s1 (g.same s1) (o1.later s1)
theorem dw_and1 (ha : DT X c a ta) : DW X c (.BoolOp .And [a] pos) ta := pw_and1 ha
theorem dw_or1 (ha : DT X c a ta) : DW X c (.BoolOp .Or [a] pos) ta := pw_or1 ha
theorem dw_and {rest : List Expr} (ha : DT X c a ta) (hb : DW X c (.BoolOp .And (b :: rest) pos) tb) : DW X c (.BoolOp .And (a :: b :: rest) pos) (tAndF ta tb) :=
  ⟨fun wh pins st σ H P I ⟨ρ, own, g, o⟩ => (pw_and ha hb).run wh pins st σ H P I ⟨ρ, own, g, tbind g o fun d H1 s1 g1 o1 => by
    cases d with
    | true => rw [if_pos rfl] at o1 ⊢; exact ⟨ρ, own, g1, o1⟩
    | false => rw [if_neg Bool.false_ne_true] at o1 ⊢; exact o1 false H1 [] (Same.refl _) ⟨rfl, rfl⟩ .nil⟩⟩
theorem dw_or {rest : List Expr} (ha : DT X c a ta) (hb : DW X c (.BoolOp .Or (b :: rest) pos) tb) : DW X c (.BoolOp .Or (a :: b :: rest) pos) (tOrF ta tb) :=
  ⟨fun wh pins st σ H P I ⟨ρ, own, g, o⟩ => (pw_or ha hb).run wh pins st σ H P I ⟨ρ, own, g, tbind g o fun d H1 s1 g1 o1 => by
    cases d with
    | false => rw [if_neg Bool.false_ne_true] at o1 ⊢; exact ⟨ρ, own, g1, o1⟩
    | true => rw [if_pos rfl] at o1 ⊢; exact o1 true H1 [] (Same.refl _) ⟨rfl, rfl⟩ .nil⟩⟩
theorem dt_w (h : DW X c e ta) : DT X c e ta := PW.pt h
theorem dt_not (ha : DT X c a ta) : DT X c (.UnaryOp .Not a pos) (tNotF ta) :=
  PT.imp (pt_not ha) fun σ H P ⟨ρ, own, g, o⟩ => ⟨ρ, own, g, tbind g o fun d H1 s1 g1 o1 => o1 (!d) H1 [] (Same.refl _) ⟨rfl, rfl⟩ .nil⟩
theorem dbind {σ : St} {H : Hp} {ρ : Env} {own : Ow} {r : R Bool} {k : Bool → R D} {P : VK} (g : Gd c σ H ρ own) (o : outR c q σ H own (Rp c.cm) (r.bind k) P) {P1 : Bool → Hp → Prop}
    (n : ∀ b H1, Same H H1 → Gd c σ H1 ρ own → outR c q σ H1 own (Rp c.cm) (k b) P → P1 b H1) : outR c .b σ H own RelB r P1 :=
  outR.bind o fun d v H1 F hd s1 r1 k1 o1 => by
    obtain ⟨e1, e2⟩ := r1
    subst e1
    exact n _ H1 s1 (g.same s1) (o1.later s1)
theorem de_if (ht : DT X c e tt) (ha : DE X c q a fa) (hb : DE X c q b fb) : DE X c q (.IfExp e a b pos) (fIf tt fa fb) :=
  PE.imp (pe_ifExp ht ha hb) fun σ H P ⟨ρ, own, g, o⟩ => ⟨ρ, own, g, dbind g o fun d H1 s1 g1 o1 => by
    cases d with
    | true => rw [if_pos rfl] at o1 ⊢; exact ⟨ρ, own, g1, o1⟩
    | false => rw [if_neg Bool.false_ne_true] at o1 ⊢; exact ⟨ρ, own, g1, o1⟩⟩
theorem bbind {σ : St} {H : Hp} {ρ : Env} {own : Ow} {r : R D} {k : Bool → R D} {P : VK} (g : Gd c σ H ρ own) (o : outR c q σ H own (Rp c.cm) (r.bind fun d => (toB d).bind k) P) {P1 : VK}
    (n : ∀ b H1, Same H H1 → Gd c σ H1 ρ own → outR c q σ H1 own (Rp c.cm) (k b) P → P1 (.bl b) H1) : outR c qa σ H own (Rp c.cm) r P1 :=
  outR.bind o fun d v H1 F hd s1 r1 k1 o1 => by
    have o2 := o1.later s1
    revert o2
    unfold toB
    split
    · intro o2
      cases r1
      exact n _ H1 s1 (g.same s1) o2
    · exact fun o2 => False.elim o2
theorem de_one {o : BoolOp} (h : DE X c q a f) : DE X c q (.BoolOp o [a] pos) f := pe_one h
theorem de_and {rest : List Expr} (ha : DE X c qa a fa) (hb : DE X c q (.BoolOp .And (b :: rest) pos) fb) : DE X c q (.BoolOp .And (a :: b :: rest) pos) (fAndV fa fb) :=
  PE.imp (pe_and ha hb) fun σ H P ⟨ρ, own, g, o⟩ => ⟨ρ, own, g, bbind g o fun d H1 s1 g1 o1 => ⟨d, rfl, by
    cases d with
    | true => rw [if_pos rfl] at o1 ⊢; exact ⟨ρ, own, g1, o1⟩
    | false => rw [if_neg Bool.false_ne_true] at o1 ⊢; exact o1 (.bl false) H1 [] (Same.refl _) (.bl _) .nil⟩⟩
theorem de_or {rest : List Expr} (ha : DE X c qa a fa) (hb : DE X c q (.BoolOp .Or (b :: rest) pos) fb) : DE X c q (.BoolOp .Or (a :: b :: rest) pos) (fOrV fa fb) :=
  PE.imp (pe_or ha hb) fun σ H P ⟨ρ, own, g, o⟩ => ⟨ρ, own, g, bbind g o fun d H1 s1 g1 o1 => ⟨d, rfl, by
    cases d with
    | false => rw [if_neg Bool.false_ne_true] at o1 ⊢; exact ⟨ρ, own, g1, o1⟩
    | true => rw [if_pos rfl] at o1 ⊢; exact o1 (.bl true) H1 [] (Same.refl _) (.bl _) .nil⟩⟩
theorem de_not (ha : DE X c qa a fa) : DE X c q (.UnaryOp .Not a pos) (fNotV fa) :=
  PE.imp (pe_not ha) fun σ H P ⟨ρ, own, g, o⟩ => ⟨ρ, own, g, bbind g o fun d H1 s1 g1 o1 => ⟨d, rfl, o1 (.bl (!d)) H1 [] (Same.refl _) (.bl _) .nil⟩⟩
theorem de_neg (ha : DE X c qa a fa) : DE X c q (.UnaryOp .USub a pos) (f1 negD fa) :=
  PE.imp (pe_un un_neg ha) fun σ H P ⟨ρ, own, g, o⟩ => ⟨ρ, own, g, outR.bind o fun d v H1 F hd s1 r1 k1 o1 => by
    revert o1
    unfold negD
    split
    · intro o1
      cases r1
      exact ⟨_, rfl, o1 _ H1 [] s1 (.int _) .nil⟩
    · exact fun o1 => False.elim o1⟩
end
/-! ### displays -/
def mkTup (fs : Env → R (List D)) : Env → R D := fun ρ => (fs ρ).bind fun ds => if ds.length ≤ 1000 then .ok (.tup ds) else .no
def mkLst (fs : Env → R (List D)) : Env → R D := fun ρ => (fs ρ).bind fun ds => if ds.length ≤ 1000 then .ok (.lst ds) else .no
/-! ### places -/
def lookK {κ : Type} [DecidableEq κ] (k : κ) : List κ → List D → Option D
  | j :: js, d :: ds => if j = k then some d else lookK k js ds
  | _, _ => none
def dgetD : D → D → Option D
  | .dK ks vs, k => match keyOf k with
    | some k => lookK k ks vs
    | none => none
  | .dT ks vs, .tup k => match keysOf k with
    | some k => lookK k ks vs
    | none => none
  | _, _ => none
def ixD (d e : D) : Option D := match itm d, e with
  | some xs, .int i => atI xs i
  | _, _ => dgetD d e
section
variable {X : Cx} {c : Cfg} {q q1 q2 qa : Q} {a b e : Expr} {es : List Expr} {pos : Pos} {f fa fb : Env → R D} {fs : Env → R (List D)}
theorem de_tup {k : Nat} (h : DA X c q es fs) : DE X c q (.Tuple es k pos) (mkTup fs) := PE.imp (pe_tup h) fun σ H P ⟨ρ, own, g, o⟩ => ⟨ρ, own, g, outR.bind o fun ds vs H1 F hd s1 r1 k1 o1 => by
  by_cases hl : ds.length ≤ 1000
  · rw [if_pos hl] at o1
    refine ⟨Nat.le_trans (by rw [r1.length]; exact hl) (by rw [sizeLine_eq]; decide), fun p hp => ?_⟩
    have sm := upd_newSame (o := .tup vs) hp
    exact o1 _ _ F (s1.trans sm) (.tup upd_same (r1.same sm)) k1
  · rw [if_neg hl] at o1
    exact False.elim o1⟩
theorem de_lst (h : DA X c q es fs) : DE X c q (.List es pos) (mkLst fs) := PE.imp (pe_lst h) fun σ H P ⟨ρ, own, g, o⟩ => ⟨ρ, own, g, outR.bind o fun ds vs H1 F hd s1 r1 k1 o1 => by
  by_cases hl : ds.length ≤ 1000
  · rw [if_pos hl] at o1
    refine ⟨Nat.le_trans (by rw [r1.length]; exact hl) (by rw [sizeLine_eq]; decide), fun p hp => ?_⟩
    have sm := upd_newSame (o := .lst vs) hp
    exact o1 _ _ (p :: F) (s1.trans sm) (.lst upd_same (r1.same sm)) (k1.der g s1 r1.trk (.cons hp (List.Sublist.refl _)))
  · rw [if_neg hl] at o1
    exact False.elim o1⟩
theorem Rps.look {κ : Type} [DecidableEq κ] {cm : Md} {H : Hp} (k : κ) : ∀ {kvs : List (κ × V)} {ds : List D} {F : List Addr}, Rps cm H (kvs.map (·.2)) ds F → ∀ {d : D}, lookK k (kvs.map (·.1)) ds = some d → ∃ v G, valV kvs k = some v ∧ Rp cm H v d G ∧ G.Sublist F := by
  intro kvs
  induction kvs with
  | nil => intro ds F r d h; cases r; cases h
  | cons p r ih =>
    intro ds F rr d h
    cases rr with
    | cons r1 r2 =>
      rw [List.map_cons] at h
      unfold lookK at h
      by_cases hk : p.1 = k
      · rw [if_pos hk] at h
        cases h
        exact ⟨_, _, valV_pos hk, r1, List.sublist_append_left _ _⟩
      · rw [if_neg hk] at h
        obtain ⟨v, G, h1, h2, h3⟩ := ih r2 h
        exact ⟨v, G, by rw [valV_neg hk]; exact h1, h2, h3.trans (List.sublist_append_right _ _)⟩
theorem Rps.noLook {κ : Type} [DecidableEq κ] {cm : Md} {H : Hp} (k : κ) : ∀ {kvs : List (κ × V)} {ds : List D} {F : List Addr}, Rps cm H (kvs.map (·.2)) ds F → lookK k (kvs.map (·.1)) ds = none → valV kvs k = none := by
  intro kvs
  induction kvs with
  | nil => intro ds F r h; rfl
  | cons p r ih =>
    intro ds F rr h
    cases rr with
    | cons r1 r2 =>
      rw [List.map_cons] at h
      unfold lookK at h
      by_cases hk : p.1 = k
      · rw [if_pos hk] at h; cases h
      · rw [if_neg hk] at h
        rw [valV_neg hk]; exact ih r2 h
theorem dget_ok {cm : Md} {H : Hp} {x y : V} {d e r : D} {F G : List Addr} (r1 : Rp cm H x d F) (r2 : Rp cm H y e G) (h : dgetD d e = some r) : ∃ p v G', x = .ref p ∧ DGet H p y (some v) ∧ Rp cm H v r G' ∧ G'.Sublist F := by
  unfold dgetD at h
  split at h
  · split at h
    · rename_i hk
      cases r1 with
      | dK e1 e2 rr =>
        subst e2
        obtain ⟨v, G', h1, h2, h3⟩ := rr.look _ h
        rw [r2.key hk]
        refine ⟨_, v, G', rfl, ?_, h2, h3.trans (List.sublist_cons_self _ _)⟩
        rw [← h1]; exact .k e1
    · cases h
  · split at h
    · rename_i hk
      cases r1 with
      | dT e1 e2 rr =>
        subst e2
        obtain ⟨v, G', h1, h2, h3⟩ := rr.look _ h
        cases r2 with
        | tup e3 r3 =>
          rw [r3.keys hk] at e3
          refine ⟨_, v, G', rfl, ?_, h2, h3.trans (List.sublist_cons_self _ _)⟩
          rw [← h1]; exact .t e1 e3
    · cases h
  · cases h
theorem ixN_len {n : Nat} {i : Int} {j : Nat} (h : ixN n i = some j) : j < n := (ixN_seq h).2.1
theorem Rps.at {cm : Md} {H : Hp} {vs : List V} {ds : List D} {F : List Addr} {i : Int} {d : D} (r : Rps cm H vs ds F) (h : atI ds i = some d) : ∃ v G, atI vs i = some v ∧ Rp cm H v d G ∧ G.Sublist F := by
  unfold atI at h ⊢
  rw [r.length]
  cases hx : ixN ds.length i with
  | none => rw [hx] at h; cases h
  | some j =>
    rw [hx] at h
    obtain ⟨v, G, h1, h2, h3⟩ := r.get (show ds[j]? = some d from h)
    exact ⟨v, G, h1, h2, h3⟩
theorem ix_d (hK : c.cm.K = X.K) (hu : X.A.units + 64 < cLine) : IxR X (rOp c ixD) := by
  intro value slice pins s σ H x y v u P I rx ry h hs
  obtain ⟨d, e, F, G, r1, r2, h⟩ := h
  revert h
  cases hr : ixD d e with
  | none => exact fun h => False.elim h
  | some r =>
  intro h
  have fin : ∀ {z : V} {G' : List Addr}, Rp c.cm H z r G' → G'.Sublist F → P z H := fun rz sl => h _ H _ (Same.refl H) rz (.sublist (sl.trans (List.sublist_append_left _ _)))
  unfold ixD at hr
  split at hr
  · rename_i xs i hi
    obtain ⟨a, vs, G', rfl, hq, sl, rr⟩ := r1.seq hi
    rw [hK] at hq
    obtain ⟨z, G2, h1, h2, h3⟩ := rr.at hr
    cases r2
    rcases hq with hq | hq
    · exact ix_list value slice pins s σ H _ _ v u P I rx ry ⟨a, vs, _, z, rfl, rfl, hq, h1, fin h2 (h3.trans sl)⟩ hs
    · exact ix_tup value slice pins s σ H _ _ v u P I rx ry ⟨a, vs, _, z, rfl, rfl, hq, h1, fin h2 (h3.trans sl)⟩ hs
  · obtain ⟨p, z, G', rfl, g, h2, h3⟩ := dget_ok r1 r2 hr
    cases rx
    exact PyProof.Rows.tail_any (dict_typeIs I g) PySem.F.slot_dict_getitem.lookup (d_getItem (by omega) I g ry fun w' s' I' rw' => ⟨z, H, I', rw', fin h2 h3⟩) hs
theorem de_ix (hK : c.cm.K = X.K) (hu : X.A.units + 64 < cLine) (j : Qj q1 q2 q) (ha : DE X c q1 a fa) (hb : DE X c q2 b fb) (hs : PlainIx b) : DE X c q (.Subscript a b pos) (f2 ixD fa fb) :=
  PE.imp (pe_ix (ix_d hK hu) ha hb hs) fun σ H P ⟨ρ, own, g, o⟩ => ⟨ρ, own, g, outR.bind o fun d v H1 F hd s1 r1 k1 o1 => ⟨ρ, own, g.same s1, outR.bind (o1.later s1) fun e u H2 G he s2 r2 k2 o2 => by
    rw [he] at o1
    have r1' := r1.same s2
    refine ⟨d, e, F, G, r1', r2, ?_⟩
    revert o1
    show outR c q σ H own (Rp c.cm) (ofO (ixD d e)) P → _
    cases ixD d e with
    | some r => exact fun o1 v' H3 FF s3 r3 dr => o1 v' H3 FF ((s1.trans s2).trans s3) r3 ((k1.join j g s1 r1.trk k2).der g (s1.trans s2) (fun a ha => (List.mem_append.mp ha).elim (r1'.trk a) (r2.trk a)) dr)
    | none => exact fun o1 => False.elim o1⟩⟩
/-! ### slices -/
def cutD (xs : List D) (lo hi : Option Int) : List D := (xs.drop (HT.sIx xs.length 0 lo)).take (HT.sIx xs.length xs.length hi - HT.sIx xs.length 0 lo)
def slD (d : D) (lo hi : Option Int) : Option D := match d with
  | .lst xs => some (.lst (cutD xs lo hi))
  | .fz xs => some (.lst (cutD xs lo hi))
  | .tup xs => if HT.sIx xs.length 0 lo = 0 ∧ HT.sIx xs.length xs.length hi = xs.length then none else some (.tup (cutD xs lo hi))
  | _ => none
def RelO (_ : Hp) (x y : Option Int) (F : List Addr) : Prop := x = y ∧ F = []
def rdO (c : Cfg) (f : Env → R (Option Int)) : TO := fun σ H P => ∃ ρ own, Gd c σ H ρ own ∧ outR c .b σ H own RelO (f ρ) P
abbrev DO (X : Cx) (c : Cfg) (e : Option Expr) (f : Env → R (Option Int)) : Prop := PO X e (rdO c f)
def oNo : Env → R (Option Int) := fun _ => .ok none
def toI : D → R (Option Int)
  | .int i => .ok (some i)
  | _ => .no
def oSome (f : Env → R D) : Env → R (Option Int) := fun ρ => (f ρ).bind toI
theorem do_none : DO X c none oNo := ⟨fun pins s σ H P I ⟨ρ, own, g, o⟩ => po_none.run pins s σ H P I (o none H [] (Same.refl H) ⟨rfl, rfl⟩ .nil)⟩
theorem do_some (h : DE X c qa e f) : DO X c (some e) (oSome f) := ⟨fun pins s σ H P I ⟨ρ, own, g, o⟩ => (po_some h).run pins s σ H P I ⟨ρ, own, g, outR.bind o fun d v H1 F hd s1 r1 k1 o1 => by
    revert o1
    unfold toI
    split
    · intro o1
      cases r1
      exact ⟨_, rfl, o1 _ H1 [] s1 ⟨rfl, rfl⟩ .nil⟩
    · exact fun o1 => False.elim o1⟩⟩
def fSl (fa : Env → R D) (fl fh : Env → R (Option Int)) : Env → R D := fun ρ => (fa ρ).bind fun d => (fl ρ).bind fun l => (fh ρ).bind fun h => ofO (slD d l h)
theorem Rps.cut {cm : Md} {H : Hp} {vs : List V} {ds : List D} {F : List Addr} (r : Rps cm H vs ds F) (lo hi : Option Int) : ∃ G, Rps cm H (cutV vs lo hi) (cutD ds lo hi) G ∧ G.Sublist F := by
  unfold cutV cutD
  rw [r.length]
  obtain ⟨F1, F2, e, h1, h2⟩ := r.takeDrop (HT.sIx ds.length 0 lo)
  obtain ⟨G1, G2, e', h3, h4⟩ := h2.takeDrop (HT.sIx ds.length ds.length hi - HT.sIx ds.length 0 lo)
  subst e e'
  exact ⟨G1, h3, (List.sublist_append_left _ _).trans (List.sublist_append_right _ _)⟩
theorem sl_d (hK : c.cm.K = X.K) : SlR X (fun x lo hi H P => ∃ d F, Rp c.cm H x d F ∧ resD c H F (slD d lo hi) P) := by
  intro pins s σ H x v vl vu lo hi sl P I rx hs pl pu h
  obtain ⟨d, F, r1, h⟩ := h
  unfold slD at h
  split at h
  · obtain ⟨a, vs, G', rfl, ha, rfl, rr⟩ := r1.listed
    obtain ⟨G, h1, h2⟩ := rr.cut lo hi
    exact sl_list pins s σ H _ v vl vu lo hi sl P I rx hs pl pu ⟨a, vs, rfl, .of ha, fun p hp => by
      have sm := upd_newSame (o := .lst (cutV vs lo hi)) hp
      exact h _ _ _ sm (.lst upd_same (h1.same sm)) (.cons hp (h2.trans (List.sublist_cons_self _ _)))⟩
  · cases r1 with
    | @frz a' vs' ds' F' e rr =>
    obtain ⟨G, h1, h2⟩ := rr.cut lo hi
    refine sl_list pins s σ H _ v vl vu lo hi sl P I rx hs pl pu ⟨_, _, rfl, by rw [← hK]; exact e.sq, fun p hp => ?_⟩
    have sm := upd_newSame (o := .lst (cutV vs' lo hi)) hp
    exact h _ _ _ sm (.lst upd_same (h1.same sm)) (.cons hp h2)
  · cases r1 with
    | @tup a' vs' ds' F' e rr =>
    split at h
    · exact False.elim h
    · rename_i hn
      obtain ⟨G, h1, h2⟩ := rr.cut lo hi
      refine sl_tup pins s σ H _ v vl vu lo hi sl P I rx hs pl pu ⟨_, _, rfl, .of e, by rw [rr.length]; exact hn, fun p hp => ?_⟩
      have sm := upd_newSame (o := .tup (cutV vs' lo hi)) hp
      exact h _ _ _ sm (.tup upd_same (h1.same sm)) (.sublist h2)
  · exact False.elim h
theorem de_slice (hK : c.cm.K = X.K) {lo hi : Option Expr} {p2 : Pos} {fl fh : Env → R (Option Int)} (ha : DE X c q a fa) (hl : DO X c lo fl) (hh : DO X c hi fh) : DE X c q (.Subscript a (.Slice lo hi none p2) pos) (fSl fa fl fh) :=
  PE.imp (pe_slice (sl_d (c := c) hK) ha hl hh) fun σ H P ⟨ρ, own, g, o⟩ => ⟨ρ, own, g, outR.bind o fun d v H1 F hd s1 r1 k1 o1 => ⟨ρ, own, g.same s1, outR.bind (o1.later s1) fun l l' H2 G hl' s2 r2 k2 o2 =>
    ⟨ρ, own, (g.same s1).same s2, outR.bind (o2.later s2) fun h h' H3 G3 hh' s3 r3 k3 o3 => by
      rw [hl'] at o1
      have o1 : outR c q σ H own (Rp c.cm) ((fh ρ).bind fun h => ofO (slD d l h)) P := o1
      rw [hh'] at o1
      have s13 := (s1.trans s2).trans s3
      obtain ⟨e1, _⟩ := r2
      obtain ⟨e2, _⟩ := r3
      subst e1 e2
      have r1' := (r1.same s2).same s3
      refine ⟨d, F, r1', ?_⟩
      revert o1
      show outR c q σ H own (Rp c.cm) (ofO (slD d l' h')) P → _
      cases slD d l' h' with
      | some r => exact fun o1 v' H4 FF s4 r4 dr => o1 v' H4 FF (s13.trans s4) r4 (k1.der g s13 r1'.trk dr)
      | none => exact fun o1 => False.elim o1⟩⟩⟩
def revD (d : D) : Option D := match itm d with
  | some xs => match d with
    | .tup _ => none
    | _ => some (.lst xs.reverse)
  | none => none
theorem Rps.rev {cm : Md} {H : Hp} : ∀ {vs : List V} {ds : List D} {F : List Addr}, Rps cm H vs ds F → ∃ G, Rps cm H vs.reverse ds.reverse G ∧ G.Perm F := by
  intro vs ds
  induction ds generalizing vs with
  | nil => intro F r; cases r; exact ⟨[], .nil, .refl _⟩
  | cons d ds ih =>
    intro F r
    cases r with
    | cons r1 r2 =>
      obtain ⟨G, h1, h2⟩ := ih r2
      refine ⟨_, by rw [List.reverse_cons, List.reverse_cons]; exact h1.append (.one r1), ?_⟩
      exact (List.perm_append_comm).trans (h2.append_left _)
theorem Der.consPerm {H : Hp} {F G F' : List Addr} {p : Addr} (hp : H p = none) (h : G.Perm F') (h' : F'.Sublist F) : Der H F (p :: G) := ⟨fun a z => (List.mem_cons.mp z).elim (fun e => .inr (by rw [e]; exact hp)) fun e => .inl (h'.subset (h.subset e)), fun n t =>
  List.nodup_cons.mpr ⟨fun z => t p (h'.subset (h.subset z)) hp, h.nodup_iff.mpr (h'.nodup n)⟩⟩
theorem de_rev (hK : c.cm.K = X.K) {k : Nat} {p1 p2 p3 : Pos} (ha : DE X c q a fa) : DE X c q (.Subscript a (.Slice none none (some (.UnaryOp .USub (.Constant (.int 1) k p1) p2)) p3) pos) (f1 revD fa) :=
  PE.imp (pe_revL ha) fun σ H P ⟨ρ, own, g, o⟩ => ⟨ρ, own, g, outR.bind o fun d v H1 F hd s1 r1 k1 o1 => by
    revert o1
    unfold revD
    cases hi : itm d with
    | none => exact fun o1 => False.elim o1
    | some xs =>
      cases r1 with
      | tup e rr => exact fun o1 => False.elim o1
      | @lst a' vs' ds' F' e rr =>
        cases hi
        obtain ⟨G, h1, h2⟩ := rr.rev
        refine fun o1 => ⟨_, _, rfl, .of e, fun p hp => ?_⟩
        have sm := upd_newSame (o := .lst vs'.reverse) hp
        exact o1 _ _ (p :: G) (s1.trans sm) (.lst upd_same (h1.same sm)) (k1.der g s1 (Rp.trk (.lst e rr)) (.consPerm hp h2 (List.sublist_cons_self _ _)))
      | @frz a' vs' ds' F' e rr =>
        cases hi
        obtain ⟨G, h1, h2⟩ := rr.rev
        refine fun o1 => ⟨_, _, rfl, by rw [← hK]; exact e.sq, fun p hp => ?_⟩
        have sm := upd_newSame (o := .lst vs'.reverse) hp
        exact o1 _ _ (p :: G) (s1.trans sm) (.lst upd_same (h1.same sm)) (k1.der g s1 (Rp.trk (.frz e rr)) (.consPerm hp h2 (List.Sublist.refl _)))
      | _ => cases hi⟩
end
end Pd
set_option Elab.async false
set_option linter.all false
set_option maxRecDepth 100000
set_option maxHeartbeats 4000000
namespace Pd
open PySem L2
open PySem.W (dataLt alike minD AlikeAll min_list_default min_list_data)
/-! ### built-in calls -/
def intsOf : List D → Option (List Int)
  | [] => some []
  | d :: ds => match d, intsOf ds with
    | .int i, some r => some (i :: r)
    | _, _ => none
def bolsOf : List D → Option (List Bool)
  | [] => some []
  | d :: ds => match d, bolsOf ds with
    | .bl i, some r => some (i :: r)
    | _, _ => none
def lenS : List D → Option D
  | [.str x] => if x.length ≤ SZ then some (.int x.length) else none
  | [.dK ks _] => some (.int ks.length)
  | [.dT ks _] => some (.int ks.length)
  | [d] => (itm d).map fun xs => .int xs.length
  | _ => none
def listS : List D → Option D
  | [d] => (itm d).map fun xs => .lst xs
  | _ => none
def itmL : D → Option (List D)
  | .lst xs => some xs
  | .fz xs => some xs
  | _ => none
def sumS : List D → Option D
  | [d] => ((itmL d).bind intsOf).map fun ns => .int ns.sum
  | _ => none
def allS : List D → Option D
  | [d] => ((itmL d).bind bolsOf).map fun bs => .bl (bs.all id)
  | _ => none
def anyS : List D → Option D
  | [d] => ((itmL d).bind bolsOf).map fun bs => .bl (bs.any id)
  | _ => none
def max2S : List D → Option D
  | [.int i, .int j] => some (.int (if j > i then j else i))
  | _ => none
def min2S : List D → Option D
  | [.int i, .int j] => some (.int (if j < i then j else i))
  | _ => none
def minI : List Int → Int
  | [] => 0
  | i :: r => r.foldl min i
def min1S : List D → Option D
  | [d] => match (itmL d).bind intsOf with
    | some (i :: r) => some (.int (minI (i :: r)))
    | _ => none
  | _ => none
section
variable {X : Cx} {c : Cfg} {q q1 q2 qa : Q} {a b e : Expr} {es : List Expr} {p pos : Pos} {f fa fb : Env → R D} {fs : Env → R (List D)} {s : List D → Option D} {id T : String} {x : Str}
theorem callS_core {σ : St} {H : Hp} {P : VK} (h : rd c q (fS s fs) σ H P) : tCB (rMt c s) (rdL c q fs) σ H P := by
  obtain ⟨ρ, own, g, o⟩ := h
  refine ⟨ρ, own, g, outR.bind o fun ds vs H1 F hd s1 r1 k1 o1 => ⟨ds, F, r1, ?_⟩⟩
  revert o1
  cases s ds with
  | some r => exact fun o1 v' H3 FF s3 r3 dr => o1 v' H3 FF (s1.trans s3) r3 (k1.der g s1 r1.trk dr)
  | none => exact fun o1 => False.elim o1
theorem de_callB (hc : CallD X c (.builtin id) s) (hg : Gl X x) (hm : X.mg x = none) (hv : bootBuiltins x = some (.builtin id)) (ha : DA X c q (e :: es) fs) (hn : x ≠ "__name__") (hdb : (x == ("__debug__" : Str)) = false)
    (he : starEach (e :: es) X.env = (false, eval e X.env) :: starEach es X.env) (hpl : (backTo pos (starEach es X.env)).any (·.1) = false) : DE X c q (.Call (.Name x p) (e :: es) [] pos) (fS s fs) :=
  PE.imp (pe_callB hc hg hm hv ha hn hdb he hpl) fun σ H P h => callS_core h
theorem de_callTy (hc : CallD X c (.type T) s) (hg : Gl X x) (hm : X.mg x = none) (hv : bootBuiltins x = some (.type T)) (ha : DA X c q (e :: es) fs) (hn : x ≠ "__name__") (hdb : (x == ("__debug__" : Str)) = false)
    (he : starEach (e :: es) X.env = (false, eval e X.env) :: starEach es X.env) (hpl : (backTo pos (starEach es X.env)).any (·.1) = false) : DE X c q (.Call (.Name x p) (e :: es) [] pos) (fS s fs) :=
  PE.imp (pe_callTy hc hg hm hv ha hn hdb he hpl) fun σ H P h => callS_core h
theorem Rps.one_inv {cm : Md} {H : Hp} {vs : List V} {d : D} {F : List Addr} (r : Rps cm H vs [d] F) : ∃ v, vs = [v] ∧ Rp cm H v d F := by
  cases r with
  | cons r1 r2 => cases r2; exact ⟨_, rfl, by simpa using r1⟩
theorem Rps.two_inv {cm : Md} {H : Hp} {vs : List V} {d e : D} {F : List Addr} (r : Rps cm H vs [d, e] F) : ∃ v u F1 F2, vs = [v, u] ∧ F = F1 ++ F2 ∧ Rp cm H v d F1 ∧ Rp cm H u e F2 := by
  cases r with
  | cons r1 r2 =>
    obtain ⟨u, rfl, r3⟩ := r2.one_inv
    exact ⟨_, _, _, _, rfl, rfl, r1, r3⟩
theorem Rps.ints {cm : Md} {H : Hp} {vs : List V} {ds : List D} {F : List Addr} {ns : List Int} (r : Rps cm H vs ds F) (h : intsOf ds = some ns) : vs = ns.map V.int := by
  induction ds generalizing vs F ns with
  | nil => cases r; cases h; rfl
  | cons d ds ih =>
    cases r with
    | cons r1 r2 =>
      unfold intsOf at h
      split at h
      · rename_i hh
        cases h
        cases r1
        rw [ih r2 hh]
        rfl
      · cases h
theorem Rps.bols {cm : Md} {H : Hp} {vs : List V} {ds : List D} {F : List Addr} {ns : List Bool} (r : Rps cm H vs ds F) (h : bolsOf ds = some ns) : vs = ns.map V.bl := by
  induction ds generalizing vs F ns with
  | nil => cases r; cases h; rfl
  | cons d ds ih =>
    cases r with
    | cons r1 r2 =>
      unfold bolsOf at h
      split at h
      · rename_i hh
        cases h
        cases r1
        rw [ih r2 hh]
        rfl
      · cases h
theorem Rp.seqL {cm : Md} {H : Hp} {v : V} {d : D} {ds : List D} {F : List Addr} (r : Rp cm H v d F) (h : itmL d = some ds) : ∃ a vs G, v = .ref a ∧ SqL cm.K H a vs ∧ G.Sublist F ∧ Rps cm H vs ds G := by
  cases r with
  | lst e r => cases h; exact ⟨_, _, _, rfl, .of e, List.sublist_cons_self _ _, r⟩
  | frz e r => cases h; exact ⟨_, _, _, rfl, e.sq, List.Sublist.refl _, r⟩
  | _ => cases h
theorem resD.imm {H : Hp} {F : List Addr} {d : D} {v : V} {P : VK} (h : resD c H F (some d) P) (r : Rp c.cm H v d []) : P v H := h v H [] (Same.refl H) r .nil
theorem cd_len (hK : c.cm.K = X.K) : CallD X c (.builtin "len") lenS := by
  intro pins st σ H xs us P I rx h
  obtain ⟨ds, F, r, h⟩ := h
  unfold lenS at h
  split at h
  · obtain ⟨v, rfl, r1⟩ := r.one_inv
    split at h
    · rename_i hl
      cases r1
      exact call_len pins st σ H _ us P I rx ⟨_, _, rfl, ⟨Nat.le_trans hl SZ_le, rfl⟩, h.imm (.int _)⟩
    · exact False.elim h
  · obtain ⟨v, rfl, r1⟩ := r.one_inv
    cases r1 with
    | dK e1 e2 rr =>
      subst e2
      obtain ⟨u, rfl, ru⟩ := vals1 rx
      cases ru
      refine d_len I (.inl e1) fun t s' I' => ⟨.int _, H, I', ⟨_, rfl⟩, ?_⟩
      have := h.imm (v := .int _) (.int _)
      rw [List.length_map] at this
      exact this
  · obtain ⟨v, rfl, r1⟩ := r.one_inv
    cases r1 with
    | dT e1 e2 rr =>
      subst e2
      refine call_len_dT pins st σ H _ us P I rx ⟨_, _, rfl, e1, ?_⟩
      have := h.imm (v := .int _) (.int _)
      rw [List.length_map] at this
      exact this
  · rename_i d _ _ _
    obtain ⟨v, rfl, r1⟩ := r.one_inv
    cases hi : itm d with
    | none => rw [hi] at h; exact False.elim h
    | some xs =>
      rw [hi] at h
      obtain ⟨a, vs, G, rfl, hq, _, rr⟩ := r1.seq hi
      rw [hK] at hq
      have hl := rr.length
      have := h.imm (v := .int _) (.int _)
      rcases hq with hq | hq
      · exact call_len pins st σ H _ us P I rx ⟨_, vs.length, rfl, .inl ⟨vs, hq, rfl⟩, by rw [hl]; exact this⟩
      · exact call_len pins st σ H _ us P I rx ⟨_, vs.length, rfl, .inr ⟨vs, hq, rfl⟩, by rw [hl]; exact this⟩
  · exact False.elim h
theorem cd_list (hK : c.cm.K = X.K) : CallD X c (.type "list") listS := by
  intro pins st σ H xs us P I rx h
  obtain ⟨ds, F, r, h⟩ := h
  unfold listS at h
  split at h
  · rename_i d
    obtain ⟨v, rfl, r1⟩ := r.one_inv
    cases hi : itm d with
    | none => rw [hi] at h; exact False.elim h
    | some ys =>
      rw [hi] at h
      obtain ⟨a, vs, G, rfl, hq, sl, rr⟩ := r1.seq hi
      rw [hK] at hq
      refine call_list_of pins st σ H _ us P I rx ⟨a, vs, rfl, hq, fun p hp => ?_⟩
      have sm := upd_newSame (o := .lst vs) hp
      exact h _ _ (p :: G) sm (.lst upd_same (rr.same sm)) (.cons hp sl)
  · exact False.elim h
theorem cd_sum (hK : c.cm.K = X.K) (hc : X.calm = true) : CallD X c (.builtin "sum") sumS := by
  intro pins st σ H xs us P I rx h
  obtain ⟨ds, F, r, h⟩ := h
  unfold sumS at h
  split at h
  · rename_i d
    obtain ⟨v, rfl, r1⟩ := r.one_inv
    cases hi : itmL d with
    | none => rw [hi] at h; exact False.elim h
    | some ys =>
      rw [hi] at h
      cases hn : intsOf ys with
      | none => simp only [Option.bind_some, hn] at h; exact False.elim h
      | some ns =>
        simp only [Option.bind_some, hn] at h
        obtain ⟨a, vs, G, rfl, hq, sl, rr⟩ := r1.seqL hi
        rw [hK] at hq
        rw [rr.ints hn] at hq
        exact cr_sum hc pins st σ H _ us P I rx ⟨a, ns, rfl, hq, h.imm (.int _)⟩
  · exact False.elim h
theorem cd_all (hK : c.cm.K = X.K) (hc : X.calm = true) : CallD X c (.builtin "all") allS := by
  intro pins st σ H xs us P I rx h
  obtain ⟨ds, F, r, h⟩ := h
  unfold allS at h
  split at h
  · rename_i d
    obtain ⟨v, rfl, r1⟩ := r.one_inv
    cases hi : itmL d with
    | none => rw [hi] at h; exact False.elim h
    | some ys =>
      rw [hi] at h
      cases hn : bolsOf ys with
      | none => simp only [Option.bind_some, hn] at h; exact False.elim h
      | some ns =>
        simp only [Option.bind_some, hn] at h
        obtain ⟨a, vs, G, rfl, hq, sl, rr⟩ := r1.seqL hi
        rw [hK] at hq
        rw [rr.bols hn] at hq
        exact cr_all hc pins st σ H _ us P I rx ⟨a, ns, rfl, hq, h.imm (.bl _)⟩
  · exact False.elim h
theorem cd_any (hK : c.cm.K = X.K) (hc : X.calm = true) : CallD X c (.builtin "any") anyS := by
  intro pins st σ H xs us P I rx h
  obtain ⟨ds, F, r, h⟩ := h
  unfold anyS at h
  split at h
  · rename_i d
    obtain ⟨v, rfl, r1⟩ := r.one_inv
    cases hi : itmL d with
    | none => rw [hi] at h; exact False.elim h
    | some ys =>
      rw [hi] at h
      cases hn : bolsOf ys with
      | none => simp only [Option.bind_some, hn] at h; exact False.elim h
      | some ns =>
        simp only [Option.bind_some, hn] at h
        obtain ⟨a, vs, G, rfl, hq, sl, rr⟩ := r1.seqL hi
        rw [hK] at hq
        rw [rr.bols hn] at hq
        exact cr_any hc pins st σ H _ us P I rx ⟨a, ns, rfl, hq, h.imm (.bl _)⟩
  · exact False.elim h
theorem cd_max2 (hc : X.calm = true) : CallD X c (.builtin "max") max2S := by
  intro pins st σ H xs us P I rx h
  obtain ⟨ds, F, r, h⟩ := h
  unfold max2S at h
  split at h
  · obtain ⟨v, u, F1, F2, rfl, _, r1, r2⟩ := r.two_inv
    cases r1; cases r2
    exact call_max2 hc pins st σ H _ us P I rx ⟨_, _, rfl, h.imm (.int _)⟩
  · exact False.elim h
theorem min_fold : ∀ (r : List Int) (i : Int), r.foldl min i ∈ i :: r ∧ ∀ y ∈ i :: r, r.foldl min i ≤ y := by
  intro r
  induction r with
  | nil => intro i; simp
  | cons j r ih =>
    intro i
    obtain ⟨h1, h2⟩ := ih (min i j)
    rw [List.foldl_cons]
    have h3 := h2 (min i j) List.mem_cons_self
    refine ⟨?_, fun y hy => ?_⟩
    · rcases List.mem_cons.mp h1 with h | h
      · rw [h]
        by_cases hij : i ≤ j
        · rw [Int.min_eq_left hij]; exact List.mem_cons_self
        · rw [Int.min_eq_right (by omega)]; exact List.mem_cons_of_mem _ List.mem_cons_self
      · exact List.mem_cons_of_mem _ (List.mem_cons_of_mem _ h)
    · rcases List.mem_cons.mp hy with rfl | hy
      · omega
      · rcases List.mem_cons.mp hy with rfl | hy
        · omega
        · exact h2 y (List.mem_cons_of_mem _ hy)
def minS (l : List D) : Option D := match l with
  | [_] => min1S l
  | _ => min2S l
theorem cd_min (hK : c.cm.K = X.K) (hc : X.calm = true) : CallD X c (.builtin "min") minS := by
  intro pins st σ H xs us P I rx h
  obtain ⟨ds, F, r, h⟩ := h
  unfold minS at h
  split at h
  · rename_i d
    obtain ⟨v, rfl, r1⟩ := r.one_inv
    unfold min1S at h
    cases hh : (itmL d).bind intsOf with
    | none => simp only [hh] at h; exact False.elim h
    | some l =>
      cases l with
      | nil => simp only [hh] at h; exact False.elim h
      | cons i ns =>
        simp only [hh] at h
        cases hi : itmL d with
        | none => rw [hi] at hh; cases hh
        | some ys =>
          rw [hi] at hh
          obtain ⟨a, vs, G, rfl, hq, sl, rr⟩ := r1.seqL hi
          rw [hK] at hq
          rw [rr.ints hh] at hq
          refine cr_min hc pins st σ H _ us P I rx ⟨a, _, rfl, hq, Nat.zero_lt_succ _, fun m hm hle => ?_⟩
          obtain ⟨h1, h2⟩ := min_fold ns i
          have e : m = minI (i :: ns) := Int.le_antisymm (hle _ h1) (h2 m hm)
          rw [e]
          exact h.imm (.int _)
  · unfold min2S at h
    split at h
    · obtain ⟨v, u, F1, F2, rfl, _, r1, r2⟩ := r.two_inv
      cases r1; cases r2
      exact call_min2 hc pins st σ H _ us P I rx ⟨_, _, rfl, h.imm (.int _)⟩
    · exact False.elim h
end
end Pd
set_option Elab.async false
set_option linter.all false
set_option maxRecDepth 100000
set_option maxHeartbeats 4000000
namespace Pd
open PySem L2
open PySem.W (dataLt alike minD AlikeAll min_list_default min_list_data)
/-! ### min(.., default=None) -/
def minL (x : D) (xs : List D) : D := xs.foldl (fun a y => if dataLt (toP y) (toP a) = true then y else a) x
def okMin (xs : List D) : Bool := (xs.all fun x => shal x 12 && !isNon x) && xs.all fun x => xs.all fun y => alike (toP x) (toP y)
def minDef (d : D) : Option D := match itmL d with
  | some [] => some .non
  | some (x :: xs) => if okMin (x :: xs) = true then some (minL x xs) else none
  | none => none
theorem minL_mem : ∀ (xs : List D) (x : D), minL x xs ∈ x :: xs := by
  intro xs
  induction xs with
  | nil => intro x; exact List.mem_cons_self
  | cons y ys ih =>
    intro x
    have h := ih (if dataLt (toP y) (toP x) = true then y else x)
    show minL _ ys ∈ _
    rcases List.mem_cons.mp h with h | h
    · show minL (if dataLt (toP y) (toP x) = true then y else x) ys ∈ x :: y :: ys
      rw [h]
      split
      · exact List.mem_cons_of_mem _ List.mem_cons_self
      · exact List.mem_cons_self
    · exact List.mem_cons_of_mem _ (List.mem_cons_of_mem _ h)
theorem minL_toP : ∀ (xs : List D) (x : D), toP (minL x xs) = minD (toP x) (toPs xs) := by
  intro xs
  induction xs with
  | nil => intro x; rfl
  | cons y ys ih =>
    intro x
    show toP (minL (if dataLt (toP y) (toP x) = true then y else x) ys) = minD (if dataLt (toP y) (toP x) = true then toP y else toP x) (toPs ys)
    rw [ih]
    split <;> rfl
theorem shals_mem {n : Nat} {d : D} : ∀ {ds : List D}, shals ds n = true → d ∈ ds → shal d n = true := fun h hd => by
  rw [shals_all] at h
  exact List.all_eq_true.mp h d hd
theorem okMin_ok {xs : List D} (h : okMin xs = true) : shals xs 12 = true ∧ AlikeAll (toPs xs) := by
  simp only [okMin, Bool.and_eq_true, List.all_eq_true, Bool.not_eq_true'] at h
  refine ⟨by rw [shals_all]; exact List.all_eq_true.mpr fun x hx => (h.1 x hx).1, fun x hx y hy => ?_, fun x hx => ?_⟩
  · rw [toPs_map] at hx hy
    obtain ⟨d, hd, rfl⟩ := List.mem_map.mp hx
    obtain ⟨e, he, rfl⟩ := List.mem_map.mp hy
    exact h.2 d hd e he
  · rw [toPs_map] at hx
    obtain ⟨d, hd, rfl⟩ := List.mem_map.mp hx
    obtain ⟨h1, h2⟩ := h.1 d hd
    intro z
    cases d <;> simp [toP, isNon, shal] at z h1 h2
section
variable {X : Cx} {c : Cfg} {q : Q} {e : Expr} {p p2 p3 pos : Pos} {k : Nat} {f : Env → R D}
theorem min_run (hK : c.cm.K = X.K) {pins : List (Addr × Obj)} {s : Shared} {σ : St} {H : Hp} {v : V} {d r : D} {F : List Addr} {P : VK} {u : Value} (hc : X.calm = true) (hu : X.A.units + 64 < cLine) (I : Inv X pins σ H s) (rv : RelV v u) (r1 : Rp c.cm H v d F) (h : minDef d = some r)
    (kk : ∀ v' G, Rp c.cm H v' r G → G.Sublist F → P v' H) : wpAny (model X.prog X.w) X.A (call (.builtin "min") [u] [(Str.ofString "default", .none)]) (EP X pins σ P) X.xe s := by
  unfold minDef at h
  cases hi : itmL d with
  | none => rw [hi] at h; cases h
  | some xs =>
    rw [hi] at h
    obtain ⟨a, vs, G, rfl, hq, sl, rr⟩ := r1.seqL hi
    rw [hK] at hq
    cases rv
    obtain ⟨its, rl, pl, hz⟩ := I.list hq
    have al : shals xs 12 = true ∧ AlikeAll (toPs xs) := by
      cases xs with
      | nil => exact ⟨rfl, (fun x hx => nomatch hx), fun x hx => nomatch hx⟩
      | cons y ys =>
        split at h
        · rename_i hh; cases hh
        · rename_i hh
          cases hh
          split at h
          · exact okMin_ok (by assumption)
          · cases h
        · rename_i hh; cases hh
    obtain ⟨as, hr⟩ := Dp.readsAll I _ vs its (rr.dp al.1) rl
    have hdep := (shals_ok xs 12 al.1).2
    refine min_list_default (I.ok.hd hc) pl.isList (vs := its.toArray) (by simpa using hr) al.2 (by omega) (fun h0 h' tk kp => ?_) fun y ys i w h' tk bs hxs hw hrd kp => ?_
    · cases xs with
      | nil =>
        cases h
        exact ⟨.non, H, I.kept kp, rfl, kk _ [] .non (List.nil_sublist _)⟩
      | cons y ys => rw [toPs] at h0; cases h0
    · cases xs with
      | nil => rw [toPs] at hxs; cases hxs
      | cons z zs =>
        rw [toPs] at hxs
        injection hxs with e1 e2
        subst e1 e2
        have hr' : some (minL z zs) = some r := by
          split at h
          · rename_i hh; cases hh
          · rename_i hh
            cases hh
            split at h
            · exact h
            · cases h
          · rename_i hh; cases hh
        cases hr'
        have I' : Inv X pins σ H { s with heap := h', toks := tk } := I.kept kp
        have hw' : its[i]? = some w := by simpa using hw
        have hlt : i < vs.length := by rw [rl.length]; exact (List.getElem?_eq_some_iff.mp hw').1
        obtain ⟨u', e1, ru⟩ := rl.get (List.getElem?_eq_getElem hlt)
        rw [hw'] at e1
        cases e1
        obtain ⟨dd, G', e3, rd', sl'⟩ := rr.getV (List.getElem?_eq_getElem hlt)
        have hm : dd ∈ z :: zs := List.mem_of_getElem? e3
        have sdd := shals_mem al.1 hm
        have smm := shals_mem al.1 (minL_mem zs z)
        obtain ⟨cs, t1⟩ := Dp.reads I' _ _ w (rd'.dp sdd) ru
        rw [← minL_toP] at hrd
        have e4 := PySem.SeqAt.plain_unique _ _ w cs bs (shal_ok _ _ sdd).1 t1 hrd
        have e5 := toP_inj dd (minL z zs) 12 sdd smm e4
        subst e5
        exact ⟨_, H, I', ru, kk _ G' rd' (sl'.trans sl)⟩
theorem de_min0 (hK : c.cm.K = X.K) (hc : X.calm = true) (hu : X.A.units + 64 < cLine) (hg : Gl X "min") (hm : X.mg "min" = none) (ha : DE X c q e f) (hs : starEach [e] X.env = (false, eval e X.env) :: starEach [] X.env) :
    DE X c q (.Call (.Name "min" p) [e] [⟨some "default", .Constant .none k p2, p3⟩] pos) (f1 minDef f) := by
  refine ⟨fun pins s σ H P I ⟨ρ, own, g, o⟩ => ?_⟩
  refine wpAny_Call_Name_kw (ld_blt I hg hm (by decide +kernel : bootBuiltins "min" = some (.builtin "min")) ?_)
  refine PyProof.Rows.callWith_kw (thn ((pa_cons ha pa_nil hs).run pos pins s σ H (fun vs H1 => ∃ d v F, vs = [v] ∧ Same H H1 ∧ Rp c.cm H1 v d F ∧ QOk c q H own F ∧ outR c q σ H own (Rp c.cm) (ofO (minDef d)) P) I
    ⟨ρ, own, g, outR.bind o fun d v H1 F hd s1 r1 k1 o1 => ⟨d, v, F, rfl, s1, r1, k1, o1⟩⟩) fun us s1 ⟨vs, H1, I1, rv, d, v, F, ev, s01, r1, k1, o1⟩ => ?_) (by rw [hs]; rfl) (by rw [hs]; rfl) rfl rfl
  subst ev
  obtain ⟨u, rfl, ru⟩ := vals1 rv
  refine thn ((pk_cons (nm := some "default") (kpos := p3) (pe_non (j := k) (pos := p2)) pk_nil).run pos pins s1 σ H1 (fun zs H2 => zs = [V.non] ∧ H2 = H1) I1 ⟨rfl, rfl⟩) fun ws s2 ⟨zs, H2, I2, rz, e1, e2⟩ => ?_
  subst e1 e2
  obtain ⟨u2, rfl, ru2⟩ := vals1 rz
  cases ru2
  revert o1
  cases hmd : minDef d with
  | none => exact fun o1 => False.elim o1
  | some r =>
    intro o1
    exact min_run hK hc hu I2 ru r1 hmd fun v' G rv' sl => o1 v' H2 G s01 rv' (k1.der g s01 r1.trk (.sublist sl))
end
/-! ### what is walked -/
structure ItOk (c : Cfg) (H1 : Hp) (own : Ow) (J : It) (ds : List D) : Prop where
  go : ∀ i H own' d, Ext H1 own H own' → (∀ j a, a ∈ own' j → ∃ o, H a = some o ∧ isMut o = true) → ds[i]? = some d → J.go i H
  yld : ∀ i H own' d x H', Ext H1 own H own' → (∀ j a, a ∈ own' j → ∃ o, H a = some o ∧ isMut o = true) → ds[i]? = some d → J.yld i H x H' → Same H H' ∧ ∃ F, Rp c.cm H' x d F ∧ ∀ a ∈ F, c.B a ∧ ∀ j, a ∉ own' j
  stop : ∀ i H own', Ext H1 own H own' → (∀ j a, a ∈ own' j → ∃ o, H a = some o ∧ isMut o = true) → ds.length ≤ i → J.stop i H
def rdI (c : Cfg) (f : Env → R (List D)) : TI := fun σ H Rr => ∃ ρ own, Gd c σ H ρ own ∧ match f ρ with
  | .ok ds => ∀ J H1, Same H H1 → ItOk c H1 own J ds → Rr J H1
  | .exc x => ∀ C dd H', c.cm.cm x = some C → Same H H' → c.W (.ref C) dd σ H'
  | .no => False
abbrev DI (X : Cx) (c : Cfg) (tg iter : Expr) (f : Env → R (List D)) : Prop := PI X tg iter (rdI c f)
def fItm (f : Env → R D) : Env → R (List D) := fun ρ => (f ρ).bind fun d => ofO (itm d)
section
variable {X : Cx} {c : Cfg} {q : Q} {tg e : Expr} {p p2 p3 pos : Pos} {f : Env → R D} {σ : St} {H H1 : Hp} {ρ : Env} {own : Ow}
theorem PI.imp {X : Cx} {tg e : Expr} {wi wi' : TI} (h : PI X tg e wi) (k : ∀ σ H Q, wi' σ H Q → wi σ H Q) : PI X tg e wi' := ⟨fun pins s σ H R I z => h.run pins s σ H R I (k _ _ _ z)⟩
theorem sq_ext {K : PySem.W.Frag} {a : Addr} {vs : List V} {own' : Ow} (hM : ∀ j a, a ∈ own j → ∃ o, H1 a = some o ∧ isMut o = true) (ha : ∀ j, a ∉ own j) (x : Ext H1 own H own') (h : SqL K H1 a vs) : SqL K H a vs := by
  rcases h with (h | ⟨o, h⟩) | h
  · exact .inl (.inl (x.keep _ _ h ha))
  · exact .inl (.inr ⟨o, x.keep _ _ h ha⟩)
  · exact .inr h
theorem st_ext {K : PySem.W.Frag} {a : Addr} {vs : List V} {own' : Ow} (hM : ∀ j a, a ∈ own j → ∃ o, H1 a = some o ∧ isMut o = true) (x : Ext H1 own H own') (h : H1 a = some (.tup vs)) : SqT K H a vs := by
  refine .inl (.inl (x.keep _ _ h fun j hj => ?_))
  obtain ⟨o, e, m⟩ := hM j a hj
  rw [h] at e; cases e; cases m
theorem item_ok {a : Addr} {vs : List V} {ds : List D} {F : List Addr} {own' : Ow} (g : Gd c σ H1 ρ own) (x : Ext H1 own H own') (rr : Rps c.cm H1 vs ds F) (hz : ∀ a ∈ F, c.B a ∧ ∀ j, a ∉ own j) {i : Nat} {d : D} {v : V} (hd : ds[i]? = some d) (hv : vs[i]? = some v) :
    ∃ G, Rp c.cm H v d G ∧ ∀ a ∈ G, c.B a ∧ ∀ j, a ∉ own' j := by
  obtain ⟨v', G, h1, h2, h3⟩ := rr.get hd
  rw [hv] at h1
  cases h1
  have hG : ∀ a ∈ G, c.B a ∧ ∀ j, a ∉ own j := fun a ha => hz a (h3.subset ha)
  exact ⟨G, h2.ext g x fun a ha => (hG a ha).2, fun a ha => ⟨(hG a ha).1, x.out a (h2.trk a ha) (hG a ha).2⟩⟩
theorem itl_ok {a : Addr} {vs : List V} {ds : List D} {F : List Addr} {K : PySem.W.Frag} (g : Gd c σ H1 ρ own) (hq : SqL K H1 a vs) (ha : ∀ j, a ∉ own j) (rr : Rps c.cm H1 vs ds F) (hz : ∀ a ∈ F, c.B a ∧ ∀ j, a ∉ own j) : ItOk c H1 own (Itl K a) ds where
  go := fun i H own' d x _ hd => by
    obtain ⟨v, G, h1, _, _⟩ := rr.get hd
    exact ⟨vs, v, sq_ext g.ownM ha x hq, h1⟩
  yld := fun i H own' d y H' x _ hd hy => by
    obtain ⟨e, hy⟩ := hy
    subst e
    exact ⟨Same.refl _, item_ok (a := a) g x rr hz hd (hy vs (sq_ext g.ownM ha x hq))⟩
  stop := fun i H own' x _ hi => ⟨vs, sq_ext g.ownM ha x hq, by rw [rr.length]; exact hi⟩
theorem itt_ok {a : Addr} {vs : List V} {ds : List D} {F : List Addr} {K : PySem.W.Frag} (g : Gd c σ H1 ρ own) (hq : H1 a = some (.tup vs)) (rr : Rps c.cm H1 vs ds F) (hz : ∀ a ∈ F, c.B a ∧ ∀ j, a ∉ own j) : ItOk c H1 own (Itt K a) ds where
  go := fun i H own' d x _ hd => by
    obtain ⟨v, G, h1, _, _⟩ := rr.get hd
    exact ⟨vs, v, st_ext g.ownM x hq, h1⟩
  yld := fun i H own' d y H' x _ hd hy => by
    obtain ⟨e, hy⟩ := hy
    subst e
    exact ⟨Same.refl _, item_ok (a := a) g x rr hz hd (hy vs (st_ext g.ownM x hq))⟩
  stop := fun i H own' x _ hi => ⟨vs, st_ext g.ownM x hq, by rw [rr.length]; exact hi⟩
/-- a list's or a tuple's iterator -/
theorem pi_seq {l : Expr} {tl : TE} {wi : TI} (hl : PE X l tl) (k : ∀ σ H Rr, wi σ H Rr → tl σ H fun x H1 => ∃ a, x = .ref a ∧ ((∃ xs, SqL X.K H1 a xs) ∧ Rr (Itl X.K a) H1 ∨ (∃ xs, SqT X.K H1 a xs) ∧ Rr (Itt X.K a) H1)) : PI X tg l wi := by
  refine ⟨fun pins s σ H Rr I h => thn (hl.run pins s σ H _ I (k σ H Rr h)) fun v s1 ⟨x, H1, I1, r1, a, e, q1⟩ => ?_⟩
  subst e
  cases r1
  have new : ∀ {K : Obj}, Inv X pins σ H1 { s1 with heap := s1.heap.push K } := fun {K} => I1.kept (t' := s1.toks) fun b o e => Heap.get?_push_of_some _ e
  have fp : ∀ b ∈ [s1.heap.objs.size], FpOk X pins H1 b := fun b hb => by
    rw [List.mem_singleton] at hb
    subst hb
    exact I1.fpOk (Nat.le_refl _) (I1.hok.fresh (Nat.le_refl _))
  rcases q1 with ⟨⟨xs, hq⟩, q⟩ | ⟨⟨xs, hq⟩, q⟩
  · obtain ⟨its, rv, pl, hz⟩ := I1.list hq
    exact wpAny_pyIter_list pl.isList ⟨_, [_], _, _, H1, rfl, new, turn_list a _, ⟨_, Heap.get?_push_size _ rfl, rfl, rfl⟩, fp, q⟩
  · obtain ⟨its, rv, pl, hz⟩ := I1.tuple hq
    exact wpAny_pyIter_tuple (show s1.heap.IsTuple a its.toArray from pl) ⟨_, [_], _, _, H1, rfl, new, turn_tuple a _, ⟨_, Heap.get?_push_size _ rfl, rfl, rfl⟩, fp, q⟩
theorem fz_ext {K : PySem.W.Frag} {a : Addr} {vs : List V} {own' : Ow} (hM : ∀ j a, a ∈ own j → ∃ o, H1 a = some o ∧ isMut o = true) (x : Ext H1 own H own') (h : FzL K H1 a vs) : FzL K H a vs :=
  h.imp (fun ⟨o, e⟩ => ⟨o, x.keep _ _ e fun j hj => by
    obtain ⟨o', e', m⟩ := hM j a hj
    rw [e] at e'; cases e'; cases m⟩) id
theorem itl_okF {a : Addr} {vs : List V} {ds : List D} {F : List Addr} {K : PySem.W.Frag} (g : Gd c σ H1 ρ own) (hq : FzL K H1 a vs) (rr : Rps c.cm H1 vs ds F) (hz : ∀ a ∈ F, c.B a ∧ ∀ j, a ∉ own j) : ItOk c H1 own (Itl K a) ds where
  go := fun i H own' d x _ hd => by
    obtain ⟨v, G, h1, _, _⟩ := rr.get hd
    exact ⟨vs, v, (fz_ext g.ownM x hq).sq, h1⟩
  yld := fun i H own' d y H' x _ hd hy => by
    obtain ⟨e, hy⟩ := hy
    subst e
    exact ⟨Same.refl _, item_ok (a := a) g x rr hz hd (hy vs (fz_ext g.ownM x hq).sq)⟩
  stop := fun i H own' x _ hi => ⟨vs, (fz_ext g.ownM x hq).sq, by rw [rr.length]; exact hi⟩
theorem di_seq (hK : c.cm.K = X.K) (ha : DE X c .z e f) : DI X c tg e (fItm f) := pi_seq ha fun σ H Rr ⟨ρ, own, g, o⟩ => ⟨ρ, own, g, by
  unfold fItm at o
  cases hf : f ρ with
  | no => rw [hf] at o; exact o
  | exc x => rw [hf] at o; exact o
  | ok d =>
    rw [hf] at o
    intro v H1 F s1 r1 k1
    have o' : match ofO (itm d) with
      | .ok ds => ∀ J H1, Same H H1 → ItOk c H1 own J ds → Rr J H1
      | .exc x => ∀ C dd H', c.cm.cm x = some C → Same H H' → c.W (.ref C) dd σ H'
      | .no => False := o
    cases hi : itm d with
    | none => rw [hi] at o'; exact False.elim o'
    | some ds =>
      rw [hi] at o'
      have g1 := g.same s1
      cases r1 with
      | lst e r => cases hi; exact ⟨_, rfl, .inl ⟨⟨_, .of e⟩, o' _ H1 s1 (itl_ok g1 (.of e) (k1 _ List.mem_cons_self).2 r fun a ha => k1 a (List.mem_cons_of_mem _ ha))⟩⟩
      | frz e r => cases hi; rw [hK] at e; exact ⟨_, rfl, .inl ⟨⟨_, e.sq⟩, o' _ H1 s1 (itl_okF g1 e r k1)⟩⟩
      | tup e r => cases hi; exact ⟨_, rfl, .inr ⟨⟨_, .of e⟩, o' _ H1 s1 (itt_ok g1 e r k1)⟩⟩
      | _ => cases hi⟩
end
end Pd
set_option Elab.async false
set_option linter.all false
set_option maxRecDepth 100000
set_option maxHeartbeats 4000000
namespace Pd
open PySem L2
/-! ### targets -/
def rdG (c : Cfg) (h : D → Env → Option Env) (ts : List Nat) : TG := fun v σ H P => ∃ ρ own d F, Gd c σ H ρ own ∧ Rp c.cm H v d F ∧ (∀ a ∈ F, c.B a ∧ ∀ j, a ∉ own j) ∧
  ∃ ρ', h d ρ = some ρ' ∧ ∀ σ', Gd c σ' H ρ' own → (∀ vs : List Nat, (∀ t ∈ ts, t ∈ vs) → wipe σ' vs = wipe σ vs) → P σ' H
def rdGs (c : Cfg) (h : List D → Env → Option Env) (ts : List Nat) : TGs := fun v σ H P => ∃ ρ own d F, Gd c σ H ρ own ∧ Rps c.cm H v d F ∧ (∀ a ∈ F, c.B a ∧ ∀ j, a ∉ own j) ∧
  ∃ ρ', h d ρ = some ρ' ∧ ∀ σ', Gd c σ' H ρ' own → (∀ vs : List Nat, (∀ t ∈ ts, t ∈ vs) → wipe σ' vs = wipe σ vs) → P σ' H
abbrev DG (X : Cx) (c : Cfg) (tg : Expr) (h : D → Env → Option Env) (ts : List Nat) : Prop := PG X tg (rdG c h ts)
abbrev DGs (X : Cx) (c : Cfg) (tg : List Expr) (h : List D → Env → Option Env) (ts : List Nat) : Prop := PGs X tg (rdGs c h ts)
def tgName (i : Nat) : D → Env → Option Env := fun d ρ => some (ρ.set i (some d))
def tgNil : List D → Env → Option Env := fun ds ρ => match ds with
  | [] => some ρ
  | _ => none
def tgCons (h : D → Env → Option Env) (r : List D → Env → Option Env) : List D → Env → Option Env := fun ds ρ => match ds with
  | d :: ds => (h d ρ).bind (r ds)
  | [] => none
def tgTup (n : Nat) (h : List D → Env → Option Env) : D → Env → Option Env := fun d ρ => match d with
  | .tup ds => if ds.length = n then h ds ρ else none
  | _ => none
theorem wipe_set (σ : St) (i : Nat) (x : Option V) : ∀ vs : List Nat, i ∈ vs → wipe (σ.set i x) vs = wipe σ vs := by
  have comm : ∀ (vs : List Nat) (σ : St), (i ∉ vs) → wipe (σ.set i x) vs = (wipe σ vs).set i x := by
    intro vs
    induction vs with
    | nil => intro σ _; rfl
    | cons v vs ih =>
      intro σ h
      rw [List.mem_cons, not_or] at h
      unfold wipe
      rw [ih σ h.2, List.set_comm _ _ h.1]
  intro vs
  induction vs with
  | nil => intro h; cases h
  | cons v vs ih =>
    intro h
    unfold wipe
    by_cases hv : i ∈ vs
    · rw [ih hv]
    · have e : i = v := (List.mem_cons.mp h).resolve_right hv
      subst e
      rw [comm vs σ hv, List.set_set]
theorem wipe_wipe (σ : St) : ∀ vs : List Nat, wipe (wipe σ vs) vs = wipe σ vs
  | [] => rfl
  | v :: vs => by
    show wipe ((wipe σ vs).set v none) (v :: vs) = _
    rw [wipe_set _ v none (v :: vs) List.mem_cons_self]
    show (wipe (wipe σ vs) vs).set v none = (wipe σ vs).set v none
    rw [wipe_wipe σ vs]
section
variable {X : Cx} {c : Cfg} {q q1 q2 qe : Q} {tg e elt iter : Expr} {es ifs : List Expr} {p p2 p3 pos : Pos} {f fe : Env → R D} {ft : Env → R Bool} {fi : Env → R (List D)} {fs : Env → R (List D)} {σ : St} {H H1 : Hp} {ρ : Env} {own : Ow}
  {h : D → Env → Option Env} {hs : List D → Env → Option Env} {ts ts' : List Nat}
theorem Gd.setz {i : Nat} {d : D} {v : V} {F : List Addr} (g : Gd c σ H ρ own) (hk : c.kd i = .z) (r : Rp c.cm H v d F) (hz : ∀ a ∈ F, c.B a ∧ ∀ j, a ∉ own j) : Gd c (σ.set i (some v)) H (ρ.set i (some d)) own where
  len := by rw [List.length_set, List.length_set]; exact g.len
  base := g.base
  dom := g.dom
  ownB := g.ownB
  ownN := g.ownN
  ownM := g.ownM
  disj := g.disj
  zer := by rw [List.length_set]; exact g.zer
  sp := by rw [List.length_set]; exact g.sp
  slot := fun j d' hj => by
    by_cases e : i = j
    · subst e
      by_cases hl : i < ρ.length
      · rw [List.getElem?_set_self hl] at hj
        cases hj
        refine ⟨v, F, List.getElem?_set_self (by rw [← g.len]; exact hl), r, ?_⟩
        unfold SOk; rw [hk]; exact hz
      · rw [List.getElem?_eq_none (by rw [List.length_set]; omega)] at hj; cases hj
    · rw [List.getElem?_set_ne e] at hj
      obtain ⟨v', F', h1, h2, h3⟩ := g.slot j d' hj
      exact ⟨v', F', by rw [List.getElem?_set_ne e]; exact h1, h2, h3⟩
theorem dg_name {i : Nat} {x : Str} (hk : c.kd i = .z) (hN : X.N.Nodup) (hi : X.N[i]? = some x) (hx : Loc X.env.scope x) (hf : X.fn x = true ∨ X.env.scope.names.lookup x = some .local) : DG X c (.Name x pos) (tgName i) [i] :=
  ⟨fun pins s σ H v u P I r ⟨ρ, own, d, F, g, rr, hz, ρ', e, k⟩ => (pg_name hN hi hx hf).run pins s σ H v u P I r (by
    cases e
    exact k _ (g.setz hk rr hz) fun vs hv => wipe_set σ i _ vs (hv i List.mem_cons_self))⟩
theorem dgs_nil : DGs X c [] tgNil [] := ⟨fun pins s σ H vs us P I r ⟨ρ, own, ds, F, g, rr, hz, ρ', e, k⟩ => pgs_nil.run pins s σ H vs us P I r (by
    cases ds with
    | nil => cases rr; cases e; exact ⟨rfl, k σ g fun _ _ => rfl⟩
    | cons d ds => cases e)⟩
theorem dgs_cons (h1 : DG X c e h ts) (h2 : DGs X c es hs ts') (hq : (assignEach (e :: es) X.env).map (·.2) = assign e X.env :: (assignEach es X.env).map (·.2)) : DGs X c (e :: es) (tgCons h hs) (ts ++ ts') :=
  ⟨fun pins s σ H vs us P I r ⟨ρ, own, ds, F, g, rr, hz, ρ', e', k⟩ => (pgs_cons h1 h2 hq).run pins s σ H vs us P I r (by
    cases ds with
    | nil => cases e'
    | cons d ds =>
      cases rr with
      | cons r1 r2 =>
        obtain ⟨ρ1, e1, e2⟩ := Option.bind_eq_some_iff.mp e'
        exact ⟨_, _, rfl, ρ, own, d, _, g, r1, fun a ha => hz a (List.mem_append_left _ ha), ρ1, e1, fun σ1 g1 w1 => ⟨ρ1, own, ds, _, g1, r2, fun a ha => hz a (List.mem_append_right _ ha), ρ', e2, fun σ2 g2 w2 =>
          k σ2 g2 fun vs' hv => (w2 vs' fun t ht => hv t (List.mem_append_right _ ht)).trans (w1 vs' fun t ht => hv t (List.mem_append_left _ ht))⟩⟩)⟩
theorem dg_tup {k n : Nat} (hc : X.calm = true) (h1 : DGs X c es hs ts) (hn : (assignEach es X.env).length = n) (hst : (assignEach es X.env).findIdx? (·.1) = none) : DG X c (.Tuple es k pos) (tgTup n hs) ts :=
  ⟨fun pins s σ H v u P I r ⟨ρ, own, d, F, g, rr, hz, ρ', e, k'⟩ => (pg_tup hc h1 hn hst).run pins s σ H v u P I r (by
    unfold tgTup at e
    split at e
    · split at e
      · rename_i hl
        cases rr with
        | tup e1 rs => exact ⟨_, _, rfl, .of e1, by rw [rs.length]; exact hl, ρ, own, _, F, g, rs, hz, ρ', e, k'⟩
      · cases e
    · cases e)⟩
/-! ### comprehensions -/
def Cfg.nox (c : Cfg) : Cfg := { c with W := fun _ _ _ _ => False }
theorem Gd.nox (g : Gd c σ H ρ own) : Gd c.nox σ H ρ own := ⟨g.len, g.base, g.dom, g.ownB, g.ownN, g.ownM, g.disj, g.zer, g.sp, g.slot⟩
theorem Gd.unnox (g : Gd c.nox σ H ρ own) : Gd c σ H ρ own := ⟨g.len, g.base, g.dom, g.ownB, g.ownN, g.ownM, g.disj, g.zer, g.sp, g.slot⟩
def wipeE (ρ : Env) : List Nat → Env
  | [] => ρ
  | v :: vs => (wipeE ρ vs).set v none
theorem Gd.wipe1 {i : Nat} (g : Gd c σ H ρ own) : Gd c (σ.set i none) H (ρ.set i none) own where
  len := by rw [List.length_set, List.length_set]; exact g.len
  base := g.base
  dom := g.dom
  ownB := g.ownB
  ownN := g.ownN
  ownM := g.ownM
  disj := g.disj
  zer := by rw [List.length_set]; exact g.zer
  sp := by rw [List.length_set]; exact g.sp
  slot := fun j d' hj => by
    by_cases e : i = j
    · subst e
      by_cases hl : i < ρ.length
      · rw [List.getElem?_set_self hl] at hj; cases hj
      · rw [List.getElem?_eq_none (by rw [List.length_set]; omega)] at hj; cases hj
    · rw [List.getElem?_set_ne e] at hj
      obtain ⟨v', F', h1, h2, h3⟩ := g.slot j d' hj
      exact ⟨v', F', by rw [List.getElem?_set_ne e]; exact h1, h2, h3⟩
theorem Gd.wipe (g : Gd c σ H ρ own) : ∀ vs : List Nat, Gd c (L2.wipe σ vs) H (wipeE ρ vs) own
  | [] => g
  | v :: vs => (Gd.wipe g vs).wipe1
/-- a new object is nobody's but ours, for a while -/
def Ow.put (own : Ow) (N : Nat) (D : Addr) : Ow := fun i => if i = N then [D] else own i
theorem Gd.tmp {Hh : Hp} {D : Addr} {o : HO} (g : Gd c σ H ρ own) (s : Same H Hh) (hD : H D = none) (ho : Hh D = some o) (hm : isMut o = true) : ∃ own', Gd c σ Hh ρ own' ∧ Ext H own Hh own' ∧ (∀ i, D ∈ own' i ∨ own' i = own i) ∧ (∃ N, D ∈ own' N) ∧ ∀ a, (∀ j, a ∉ own' j) → ∀ j, a ∉ own j := by
  obtain ⟨N, hN, hsp⟩ := g.sp
  have mem : ∀ {i : Nat} {a : Addr}, a ∈ own.put N D i → (i = N ∧ a = D) ∨ (i ≠ N ∧ a ∈ own i) := fun {i a} h => by
    unfold Ow.put at h
    split at h
    · exact .inl ⟨by assumption, by simpa using h⟩
    · exact .inr ⟨by assumption, h⟩
  have nD : ∀ i, D ∉ own i := g.newOwn hD
  have sub : ∀ {i : Nat} {a : Addr}, a ∈ own i → a ∈ own.put N D i := fun {i a} h => by
    unfold Ow.put
    split
    · rename_i e; rw [e, hsp N (Nat.le_refl _)] at h; cases h
    · exact h
  refine ⟨own.put N D, ⟨g.len, fun b o h n => s b o (g.base b o h n), fun b h => Same.dom s b (g.dom b h), fun i a h => ?_, fun i a h => ?_, fun i a h => ?_, fun i j a h h' => ?_, fun i hi hk => ?_, ⟨N + 1, by omega, fun i hi => ?_⟩, fun i d h => ?_⟩, ⟨fun b o h n => s b o h, fun b h n j z => ?_, Same.dom s⟩, fun i => ?_, ⟨N, by unfold Ow.put; rw [if_pos rfl]; exact List.mem_cons_self⟩, fun a h j z => h j (sub z)⟩
  · rcases mem h with ⟨_, rfl⟩ | ⟨_, h⟩
    · exact g.newB hD
    · exact g.ownB i a h
  · rcases mem h with ⟨_, rfl⟩ | ⟨_, h⟩
    · exact .inl (g.new hD)
    · exact g.ownN i a h
  · rcases mem h with ⟨_, rfl⟩ | ⟨_, h⟩
    · exact ⟨o, ho, hm⟩
    · obtain ⟨o', e, m⟩ := g.ownM i a h
      exact ⟨o', s a o' e, m⟩
  · rcases mem h with ⟨e1, rfl⟩ | ⟨e1, h1⟩ <;> rcases mem h' with ⟨e2, e3⟩ | ⟨e2, h2⟩
    · rw [e1, e2]
    · exact absurd h2 (nD j)
    · subst e3; exact absurd h1 (nD i)
    · exact g.disj i j a h1 h2
  · unfold Ow.put
    rw [if_neg (by omega)]
    exact g.zer i hi hk
  · unfold Ow.put
    rw [if_neg (by omega)]
    exact hsp i (by omega)
  · obtain ⟨v, F, h1, h2, h3⟩ := g.slot i d h
    refine ⟨v, F, h1, h2.same s, ?_⟩
    have hi : i < ρ.length := (List.getElem?_eq_some_iff.mp h).1
    have oi : own.put N D i = own i := by unfold Ow.put; rw [if_neg (by omega)]
    have nF : ∀ a ∈ F, a ≠ D := fun a ha e => h2.trk a ha (by rw [e]; exact hD)
    have nput : ∀ a ∈ F, (∀ j, a ∉ own j) → ∀ j, a ∉ own.put N D j := fun a ha hn j z => (mem z).elim (fun w => nF a ha w.2) fun w => hn j w.2
    unfold SOk at h3 ⊢
    revert h3
    cases c.kd i with
    | z => exact fun h3 a ha => ⟨(h3 a ha).1, nput a ha (h3 a ha).2⟩
    | m => exact fun h3 => ⟨h3.1, by rw [oi]; exact h3.2⟩
    | r => exact fun ⟨a, F', e1, e2, e3, e4⟩ => ⟨a, F', e1, e2, by rw [oi]; exact e3, fun b hb => ⟨(e4 b hb).1, nput b (by rw [e2]; exact List.mem_cons_of_mem _ hb) (e4 b hb).2⟩⟩
  · rcases mem z with ⟨_, rfl⟩ | ⟨_, z⟩
    · exact h hD
    · exact n j z
  · unfold Ow.put
    split
    · exact .inl List.mem_cons_self
    · exact .inr rfl
def lcGo (tg : D → Env → Option Env) (ft : Env → R Bool) (fe : Env → R D) (ρw : Env) : List D → R (List D)
  | [] => .ok []
  | d :: ds => match tg d ρw with
    | none => .no
    | some ρ1 => match ft ρ1 with
      | .ok true => match fe ρ1 with
        | .ok y => match lcGo tg ft fe ρw ds with
          | .ok ys => .ok (y :: ys)
          | _ => .no
        | _ => .no
      | .ok false => lcGo tg ft fe ρw ds
      | _ => .no
def fLc (fi : Env → R (List D)) (tg : D → Env → Option Env) (ft : Env → R Bool) (fe : Env → R D) (vs : List Nat) : Env → R D := fun ρ => match fi ρ with
  | .ok ds => if ds.length ≤ SZ then (match lcGo tg ft fe (wipeE ρ vs) ds with
    | .ok ys => .ok (.lst ys)
    | _ => .no) else .no
  | .exc x => .exc x
  | .no => .no
def tTrue : Env → R Bool := fun _ => .ok true
abbrev DTs (X : Cx) (c : Cfg) (es : List Expr) (f : Env → R Bool) : Prop := PTs X es (rdT c f)
theorem dts_nil : DTs X c [] tTrue := ⟨fun pins s σ H P I ⟨ρ, own, g, o⟩ => pts_nil.run pins s σ H P I (o true H [] (Same.refl H) ⟨rfl, rfl⟩ .nil)⟩
theorem dts_one (ha : DT X c e ft) : DTs X c [e] ft := pts_one ha
inductive Qz : Q → Prop
  | z : Qz .z
  | n : Qz (.n [])
theorem Qz.j (h : Qz q) : Qj q q q := by
  cases h with
  | z => exact .z
  | n => exact .n0
theorem lc_core' {P : VK} (hqe : Qz q) {vs : List Nat} (hts : ∀ t ∈ ts, t ∈ vs) (hh : rd c q (fLc fi h ft fe vs) σ H P) : tLc (rdI c fi) (rdG c.nox h ts) (rdT c.nox ft) (rd c.nox q fe) vs σ H P := by
  obtain ⟨ρ, own, g, o⟩ := hh
  unfold fLc at o
  refine ⟨ρ, own, g, ?_⟩
  cases hf : fi ρ with
  | no => rw [hf] at o; exact o
  | exc x => rw [hf] at o; exact o
  | ok ds =>
    rw [hf] at o
    intro J H1 s1 it D hD
    have o1 : outR c q σ H own (Rp c.cm) (if ds.length ≤ SZ then (match lcGo h ft fe (wipeE ρ vs) ds with
      | .ok ys => .ok (.lst ys)
      | _ => .no) else .no) P := o
    by_cases hl : ds.length ≤ SZ
    · rw [if_pos hl] at o1
      cases hgo : lcGo h ft fe (wipeE ρ vs) ds with
      | no => rw [hgo] at o1; exact False.elim o1
      | exc x => rw [hgo] at o1; exact False.elim o1
      | ok all =>
        rw [hgo] at o1
        have g1 := g.same s1
        have hnd : ∀ {b : Addr} {o : HO}, H1 b = some o → b ≠ D := fun e => ne_of_none e hD
        have smD : Same H1 (upd H1 D (.lst [])) := upd_newSame hD
        refine ⟨fun i m Hh => m = ds.length - i ∧ i ≤ ds.length ∧ Same H1 Hh ∧ ∃ acc ys F rest, Hh D = some (.lst acc) ∧ Rps c.cm Hh acc ys F ∧ D ∉ F ∧ QOk c q H1 own F ∧ lcGo h ft fe (wipeE ρ vs) (ds.drop i) = .ok rest ∧ all = ys ++ rest ∧ acc.length ≤ i,
          ⟨ds.length, by simp, Nat.zero_le _, smD, [], [], [], all, upd_same, .nil, (fun z => nomatch z), .nil, hgo, rfl, Nat.le_refl _⟩, ?_⟩
        rintro i m Hh ⟨rfl, hi, sh, acc, ys, F, rest, hHD, rr, hDF, kq, hrest, hall, hacc⟩
        obtain ⟨own2, gh, x, _, ⟨N, hDN⟩, hsub⟩ := g1.tmp sh hD hHD rfl
        by_cases hlt : i < ds.length
        · refine .inr ⟨it.go i Hh own2 _ x gh.ownM (List.getElem?_eq_getElem hlt), fun H' => i + 1 ≤ ds.length ∧ Same H1 H' ∧ ∃ acc ys F rest, H' D = some (.lst acc) ∧ Rps c.cm H' acc ys F ∧ D ∉ F ∧ QOk c q H1 own F ∧ lcGo h ft fe (wipeE ρ vs) (ds.drop (i + 1)) = .ok rest ∧ all = ys ++ rest ∧ acc.length ≤ i + 1,
            fun H' ⟨a1, a2⟩ => ⟨ds.length - (i + 1), by omega, rfl, a1, a2⟩, fun y H2 hy => ?_⟩
          obtain ⟨s2, Fy, ry, zy⟩ := it.yld i Hh own2 _ y H2 x gh.ownM (List.getElem?_eq_getElem hlt) hy
          rw [List.drop_eq_getElem_cons hlt] at hrest
          unfold lcGo at hrest
          cases htg : h ds[i] (wipeE ρ vs) with
          | none => simp only [htg] at hrest; cases hrest
          | some ρ1 =>
            simp only [htg] at hrest
            refine ⟨wipeE ρ vs, own2, ds[i], Fy, ((gh.same s2).wipe vs).nox, ry, zy, ρ1, htg, fun σ2 g2 w2 => ⟨(w2 vs hts).trans (wipe_wipe σ vs), ρ1, own2, g2, ?_⟩⟩
            cases hft : ft ρ1 with
            | no => simp only [hft] at hrest; cases hrest
            | exc x => simp only [hft] at hrest; cases hrest
            | ok b =>
              simp only [hft] at hrest
              rintro b' H3 F3 s3 ⟨rfl, rfl⟩ _
              cases b' with
              | false =>
                rw [if_neg Bool.false_ne_true]
                exact ⟨hlt, (sh.trans s2).trans s3, acc, ys, F, rest, s3 _ _ (s2 _ _ hHD), (rr.same s2).same s3, hDF, kq, hrest, hall, Nat.le_succ_of_le hacc⟩
              | true =>
                rw [if_pos rfl]
                refine ⟨ρ1, own2, g2.same s3, ?_⟩
                cases hfe : fe ρ1 with
                | no => simp only [hfe] at hrest; cases hrest
                | exc x => simp only [hfe] at hrest; cases hrest
                | ok yd =>
                  simp only [hfe] at hrest
                  intro v H4 F4 s4 r4 k4
                  cases hlc : lcGo h ft fe (wipeE ρ vs) (ds.drop (i + 1)) with
                  | no => simp only [hlc] at hrest; cases hrest
                  | exc x => simp only [hlc] at hrest; cases hrest
                  | ok zs =>
                    simp only [hlc] at hrest
                    cases hrest
                    have s24 := (s2.trans s3).trans s4
                    have kDF : D ∉ F4 := fun hz => by
                      have hD3 : H3 D ≠ none := by rw [s3 _ _ (s2 _ _ hHD)]; exact Option.some_ne_none _
                      revert k4
                      cases hqe with
                      | z => exact fun k4 => (k4 D hz).2 N hDN
                      | n => exact fun k4 => (k4.2 D hz).elim (fun z => hD3 z) fun ⟨_, z, _⟩ => nomatch z
                    have k4' : QOk c q H3 own F4 := by
                      revert k4
                      cases hqe with
                      | z => exact fun k4 a ha => ⟨(k4 a ha).1, hsub a (k4 a ha).2⟩
                      | n => exact fun k4 => ⟨k4.1, fun a ha => (k4.2 a ha).imp id fun ⟨_, z, _⟩ => nomatch z⟩
                    refine ⟨acc, s24 _ _ hHD, Nat.lt_of_le_of_lt hacc (Nat.lt_of_lt_of_le hlt (Nat.le_trans hl SZ_le)), hlt, ?_, acc ++ [v], ys ++ [yd], F ++ F4, zs, upd_same, ?_, ?_, ?_, by first | exact hlc | rfl, by simp [hall], by simp; omega⟩
                    · exact fun b ob e => by
                        rw [upd_ne (hnd e)]
                        exact s24 _ _ (sh b ob e)
                    · have q1 := (rr.same s24).append (.one r4)
                      refine q1.mono fun b ob e z => ?_
                      have hbD : b ≠ D := by
                        rintro rfl
                        rcases z with z | z
                        · exact (List.mem_append.mp z).elim hDF kDF
                        · rw [s24 _ _ hHD] at e; cases e; cases z
                      rw [upd_ne hbD]; exact e
                    · exact fun z => (List.mem_append.mp z).elim hDF kDF
                    · exact kq.join hqe.j g1 (sh.trans (s2.trans s3)) (fun a ha => by have := rr.trk a ha; exact Same.dom (s2.trans s3) a this) k4'
        · have hie : i = ds.length := by omega
          subst hie
          refine .inl ⟨it.stop _ Hh own2 x gh.ownM (Nat.le_refl _), ?_⟩
          rw [List.drop_length] at hrest
          cases hrest
          rw [List.append_nil] at hall
          subst hall
          refine o1 (.ref D) Hh (D :: F) (s1.trans sh) (.lst hHD rr) ?_
          have dd : Der H1 F (D :: F) := .cons hD (List.Sublist.refl _)
          cases q with
          | b => exact fun a ha => (List.mem_cons.mp ha).elim (fun e => by subst e; exact g1.newB hD) (kq a)
          | z => exact fun a ha => (List.mem_cons.mp ha).elim (fun e => by subst e; exact ⟨g1.newB hD, g1.newOwn hD⟩) (kq a)
          | n S => exact ⟨List.nodup_cons.mpr ⟨hDF, kq.1⟩, fun a ha => (List.mem_cons.mp ha).elim (fun e => by subst e; exact .inl (s1.free hD)) fun z => (kq.2 a z).imp (fun w => s1.free w) id⟩
    · rw [if_neg hl] at o1
      exact False.elim o1
theorem de_lc {scope : Scope} {own : List (Str × Nat)} (hc : X.calm = true) (hN : X.N.Nodup) (hqz : Qz q) (hi : DI X c tg iter fi) (ok : BlkOk X.N X.env.scope scope own)
    (hg : ∀ (s : Shared) (H : Hp) (C : Addr) (cl : List (Str × Addr)) (fp : List Addr), DG (X.blk s H scope (compEnvC scope cl C X.env) fp) c.nox tg h ts)
    (ht : ∀ (s : Shared) (H : Hp) (C : Addr) (cl : List (Str × Addr)) (fp : List Addr), DTs (X.blk s H scope (compEnvC scope cl C X.env) fp) c.nox ifs ft)
    (he : ∀ (s : Shared) (H : Hp) (C : Addr) (cl : List (Str × Addr)) (fp : List Addr), DE (X.blk s H scope (compEnvC scope cl C X.env) fp) c.nox q elt fe)
    (hs : ∀ x, foldedSetIterable iter X.env x = pure x) (hts : ∀ t ∈ ts, t ∈ own.map (·.2)) :
    DE X c q (.ListComp elt [⟨tg, iter, ifs, 0⟩] scope pos) (fLc fi h ft fe (own.map (·.2))) :=
  PE.imp (pe_lc hc hN hi ok hg ht he hs) fun σ H P z => lc_core' hqz hts z
end
end Pd
set_option Elab.async false
set_option linter.all false
set_option maxRecDepth 100000
set_option maxHeartbeats 4000000
namespace Pd
open PySem L2
/-! ### statements -/
def SR.then (r : SR) (k : Env → SR) : SR := match r with
  | .nx ρ => k ρ
  | r => r
def sNil : Env → SR := fun ρ => .nx ρ
def sSeq (a b : Env → SR) : Env → SR := fun ρ => (a ρ).then b
def sBrk : Env → SR := fun ρ => .bk ρ
def sCnt : Env → SR := fun ρ => .ct ρ
def sRet (f : Env → R D) : Env → SR := fun ρ => match f ρ with
  | .ok d => .rt d ρ
  | .exc x => .ex x ρ
  | .no => .no
def sExp (f : Env → R D) : Env → SR := fun ρ => match f ρ with
  | .ok _ => .nx ρ
  | .exc x => .ex x ρ
  | .no => .no
def sIf (t : Env → R Bool) (a b : Env → SR) : Env → SR := fun ρ => match t ρ with
  | .ok true => a ρ
  | .ok false => b ρ
  | .exc x => .ex x ρ
  | .no => .no
def sSet (i : Nat) (f : Env → R D) : Env → SR := fun ρ => match f ρ with
  | .ok d => .nx (ρ.set i (some d))
  | .exc x => .ex x ρ
  | .no => .no
def isRoot : D → Bool
  | .lst _ => true
  | .dK _ _ => true
  | .dT _ _ => true
  | .ins _ _ _ => true
  | _ => false
def sSetR (i : Nat) (f : Env → R D) : Env → SR := fun ρ => match f ρ with
  | .ok d => if isRoot d = true then .nx (ρ.set i (some d)) else .no
  | .exc x => .ex x ρ
  | .no => .no
def sAsg (f : Env → R D) (h : D → Env → Option Env) : Env → SR := fun ρ => match f ρ with
  | .ok d => match h d ρ with
    | some ρ' => .nx ρ'
    | none => .no
  | .exc x => .ex x ρ
  | .no => .no
def sRaise (x : Str) : Env → SR := fun ρ => .ex x ρ
section
variable {X : Cx} {c : Cfg} {q qa : Q} {tg e iter : Expr} {st : Stmt} {a b sts body : List Stmt} {p pos : Pos} {f fe : Env → R D} {ft : Env → R Bool} {fi fs : Env → R (List D)} {σ : St} {H H1 : Hp} {ρ : Env} {own : Ow} {g g' : Env → SR}
  {h : D → Env → Option Env} {ts : List Nat} {i : Nat} {x : Str}
theorem outS.later {own1 : Ow} {r : SR} {Dn : Ends} (x : Ext H own H1 own1) (o : outS c H own r Dn) : outS c H1 own1 r Dn := by
  cases r with
  | nx ρ' => exact fun σ' H' own' g' x' => o σ' H' own' g' (x.trans x')
  | bk ρ' => exact fun σ' H' own' g' x' => o σ' H' own' g' (x.trans x')
  | ct ρ' => exact fun σ' H' own' g' x' => o σ' H' own' g' (x.trans x')
  | rt d ρ' => exact fun v σ' H' own' F g' x' => o v σ' H' own' F g' (x.trans x')
  | ex y ρ' => exact fun C dd σ' H' own' e g' x' => o C dd σ' H' own' e g' (x.trans x')
  | no => exact o
theorem dss_nil : DSs X c [] sNil := PSs.imp pss_nil fun D σ H ⟨ρ, own, gd, o⟩ => o σ H own gd .refl
theorem dss_cons (h1 : DS X c st g) (h2 : DSs X c sts g') : DSs X c (st :: sts) (sSeq g g') := PSs.imp (pss_cons h1 h2) fun D σ H ⟨ρ, own, gd, o⟩ => ⟨ρ, own, gd, by
  unfold sSeq at o
  revert o
  cases g ρ with
  | nx ρ' => exact fun o σ' H' own' g1 x1 => ⟨ρ', own', g1, outS.later x1 o⟩
  | bk ρ' => exact id
  | ct ρ' => exact id
  | rt d ρ' => exact id
  | ex y ρ' => exact id
  | no => exact id⟩
theorem dss_one (h1 : DS X c st g) : DSs X c [st] g := pss_one h1
theorem ds_break : DS X c (.Break pos) sBrk := PS.imp ps_break fun D σ H ⟨ρ, own, gd, o⟩ => o σ H own gd .refl
theorem ds_continue : DS X c (.Continue pos) sCnt := PS.imp ps_continue fun D σ H ⟨ρ, own, gd, o⟩ => o σ H own gd .refl
theorem ds_pass : DS X c (.Pass pos) sNil := PS.imp ps_pass fun D σ H ⟨ρ, own, gd, o⟩ => o σ H own gd .refl
theorem ds_doc {y : Str} {j : Nat} : DS X c (.Expr (.Constant (.str y) j pos) p) sNil := PS.imp ps_doc fun D σ H ⟨ρ, own, gd, o⟩ => o σ H own gd .refl
theorem ds_if {te : Expr} (ht : DT X c te ft) (ha : DSs X c a g) (hb : DSs X c b g') : DS X c (.If te a b pos) (sIf ft g g') := PS.imp (ps_if ht ha hb) fun D σ H ⟨ρ, own, gd, o⟩ => ⟨ρ, own, gd, by
  unfold sIf at o
  revert o
  cases hf : ft ρ with
  | no => exact id
  | exc y => exact fun o C dd H' e s => o C dd σ H' own e (gd.same s) (.ofSame s)
  | ok b =>
    rintro o d H1 F s ⟨rfl, rfl⟩ _
    cases d with
    | true => exact ⟨ρ, own, gd.same s, outS.later (.ofSame s) o⟩
    | false => exact ⟨ρ, own, gd.same s, outS.later (.ofSame s) o⟩⟩
/-- the quality that a returned value wants -/
def RtQ (c : Cfg) (q : Q) : Prop := c.fr = true → ∃ S, q = .n S ∧ ∀ a, ¬ c.io a
theorem RtQ.rq {F : List Addr} (hq : RtQ c q) (gd : Gd c σ H ρ own) (k : QOk c q H own F) : RQ c F := by
  unfold RQ
  split
  · rename_i hf
    obtain ⟨S, rfl, hio⟩ := hq hf
    exact ⟨k.1, fun a ha => (k.2 a ha).elim (fun z => gd.new z) fun ⟨i, _, z⟩ => (gd.ownN i a z).resolve_right (hio a)⟩
  · exact k.b gd
theorem ds_ret (hq : RtQ c q) (he : DE X c q e f) : DS X c (.Return (some e) pos) (sRet f) := PS.imp (ps_ret he) fun D σ H ⟨ρ, own, gd, o⟩ => ⟨ρ, own, gd, by
  unfold sRet at o
  revert o
  cases f ρ with
  | no => exact id
  | exc y => exact fun o C dd H' e s => o C dd σ H' own e (gd.same s) (.ofSame s)
  | ok d => exact fun o v H1 F s r k => o v σ H1 own F (gd.same s) (.ofSame s) r (hq.rq gd k)⟩
theorem ds_retN : DS X c (.Return none pos) (sRet (fC .non)) := PS.imp ps_retN fun D σ H ⟨ρ, own, gd, o⟩ => o .non σ H own [] gd .refl .non (by unfold RQ; split <;> simp)
theorem ds_exp (he : DE X c q e f) (hs : swapsWith e none pos.line X.env = pure false) : DS X c (.Expr e pos) (sExp f) := PS.imp (ps_expr he hs) fun D σ H ⟨ρ, own, gd, o⟩ => ⟨ρ, own, gd, by
  unfold sExp at o
  revert o
  cases f ρ with
  | no => exact id
  | exc y => exact fun o C dd H' e s => o C dd σ H' own e (gd.same s) (.ofSame s)
  | ok d => exact fun o v H1 F s r k => o σ H1 own (gd.same s) (.ofSame s)⟩
/-- a slot takes over new data -/
theorem Gd.setOwn {Hs : Hp} {d : D} {v : V} {F : List Addr} {own' : List Addr} (gd : Gd c σ Hs ρ own) (s : Same Hs H) (hk : c.kd i ≠ .z) (r : Rp c.cm H v d F) (sub : ∀ a ∈ own', a ∈ F) (hF : ∀ a ∈ F, Hs a = none) (hM : ∀ a ∈ own', ∃ o, H a = some o ∧ isMut o = true)
    (ok : match c.kd i with
      | .z => False
      | .m => F.Nodup ∧ F = own'
      | .r => ∃ a F', v = .ref a ∧ F = a :: F' ∧ own' = [a] ∧ ∀ b ∈ F', b ≠ a) :
    ∃ own2, Gd c (σ.set i (some v)) H (ρ.set i (some d)) own2 ∧ ∀ a j, a ∈ own2 j → a ∈ own j ∨ a ∈ F := by
  have gs := gd.same s
  by_cases hi : i < ρ.length
  · have mem : ∀ {j : Nat} {a : Addr}, a ∈ (fun j => if j = i then own' else own j : Ow) j → (j = i ∧ a ∈ own') ∨ (j ≠ i ∧ a ∈ own j) := fun {j a} h => by
      by_cases e : j = i
      · exact .inl ⟨e, by simpa [e] using h⟩
      · exact .inr ⟨e, by simpa [e] using h⟩
    have fr : ∀ a ∈ F, c.B a ∧ c.H0 a = none ∧ ∀ j, a ∉ own j := fun a ha => ⟨gd.newB (hF a ha), gd.new (hF a ha), gd.newOwn (hF a ha)⟩
    refine ⟨fun j => if j = i then own' else own j, ⟨by rw [List.length_set, List.length_set]; exact gd.len, gs.base, gs.dom, fun j a h => ?_, fun j a h => ?_, fun j a h => ?_, fun j k a h h' => ?_, fun j hj hkz => ?_, ?_, fun j d' hj => ?_⟩, fun a j h => ?_⟩
    · rcases mem h with ⟨_, h⟩ | ⟨_, h⟩
      · exact (fr a (sub a h)).1
      · exact gd.ownB j a h
    · rcases mem h with ⟨_, h⟩ | ⟨_, h⟩
      · exact .inl (fr a (sub a h)).2.1
      · exact gd.ownN j a h
    · rcases mem h with ⟨_, h⟩ | ⟨_, h⟩
      · exact hM a h
      · exact gs.ownM j a h
    · rcases mem h with ⟨e1, h1⟩ | ⟨e1, h1⟩ <;> rcases mem h' with ⟨e2, h2⟩ | ⟨e2, h2⟩
      · rw [e1, e2]
      · exact absurd h2 ((fr a (sub a h1)).2.2 k)
      · exact absurd h1 ((fr a (sub a h2)).2.2 j)
      · exact gd.disj j k a h1 h2
    · rw [List.length_set] at hj
      show (if j = i then own' else own j) = []
      rw [if_neg (fun e => hk (by rw [← e]; exact hkz))]
      exact gd.zer j hj hkz
    · obtain ⟨N, h1, h2⟩ := gd.sp
      rw [List.length_set]
      exact ⟨N, h1, fun j hj => by
        show (if j = i then own' else own j) = []
        rw [if_neg (by omega)]; exact h2 j hj⟩
    · by_cases e : i = j
      · subst e
        rw [List.getElem?_set_self hi] at hj
        cases hj
        refine ⟨v, F, List.getElem?_set_self (by rw [← gd.len]; exact hi), r, ?_⟩
        unfold SOk
        revert ok hk
        cases c.kd i with
        | z => exact fun h => absurd rfl h
        | m => exact fun _ ok => ⟨ok.1, by simpa using ok.2⟩
        | r =>
          rintro _ ⟨a, F', e1, e2, e3, e4⟩
          refine ⟨a, F', e1, e2, by simpa using e3, fun b hb => ?_⟩
          have hb' := fr b (by rw [e2]; exact List.mem_cons_of_mem _ hb)
          refine ⟨hb'.1, fun j z => ?_⟩
          rcases mem z with ⟨_, z⟩ | ⟨_, z⟩
          · rw [e3] at z
            exact e4 b hb (by simpa using z)
          · exact hb'.2.2 j z
      · rw [List.getElem?_set_ne e] at hj
        obtain ⟨v', F', h1, h2, h3⟩ := gd.slot j d' hj
        refine ⟨v', F', by rw [List.getElem?_set_ne e]; exact h1, h2.same s, ?_⟩
        have oj : (if j = i then own' else own j) = own j := if_neg (Ne.symm e)
        have nput : ∀ a ∈ F', (∀ k, a ∉ own k) → ∀ k, a ∉ (fun j => if j = i then own' else own j : Ow) k := fun a ha hn k z => (mem z).elim (fun w => h2.trk a ha (hF a (sub a w.2))) fun w => hn k w.2
        unfold SOk at h3 ⊢
        revert h3
        cases c.kd j with
        | z => exact fun h3 a ha => ⟨(h3 a ha).1, nput a ha (h3 a ha).2⟩
        | m => exact fun h3 => ⟨h3.1, h3.2.trans oj.symm⟩
        | r => exact fun ⟨a, F2, e1, e2, e3, e4⟩ => ⟨a, F2, e1, e2, oj.trans e3, fun b hb => ⟨(e4 b hb).1, nput b (by rw [e2]; exact List.mem_cons_of_mem _ hb) (e4 b hb).2⟩⟩
    · rcases mem h with ⟨_, h⟩ | ⟨_, h⟩
      · exact .inr (sub a h)
      · exact .inl h
  · have e1 : σ.set i (some v) = σ := List.set_eq_of_length_le (Nat.le_trans (Nat.le_of_eq gd.len.symm) (Nat.le_of_not_lt hi))
    have e2 : List.set ρ i (some d) = ρ := List.set_eq_of_length_le (Nat.le_of_not_lt hi)
    rw [e1, e2]
    exact ⟨own, gs, fun a j h => .inl h⟩
theorem Rp.mutF {v : V} {d : D} {F : List Addr} {cm : Md} (r : Rp cm H v d F) : isRoot d = true → ∃ a F', v = .ref a ∧ F = a :: F' ∧ ∃ o, H a = some o ∧ isMut o = true := by
  cases r with
  | lst e r => exact fun _ => ⟨_, _, rfl, rfl, _, e, rfl⟩
  | dK e _ r => exact fun _ => ⟨_, _, rfl, rfl, _, e, rfl⟩
  | dT e _ r => exact fun _ => ⟨_, _, rfl, rfl, _, e, rfl⟩
  | ins e _ _ r => exact fun _ => ⟨_, _, rfl, rfl, _, e, rfl⟩
  | _ => exact fun h => nomatch h
mutual
theorem Rp.allMut {cm : Md} {v : V} {d : D} {F : List Addr} : Rp cm H v d F → ∀ a ∈ F, ∃ o, H a = some o ∧ isMut o = true
  | .non, a, h => nomatch h
  | .bl _, a, h => nomatch h
  | .int _, a, h => nomatch h
  | .str _, a, h => nomatch h
  | .tup _ r, a, h => Rps.allMut r a h
  | .lst e r, a, h => (List.mem_cons.mp h).elim (fun z => by subst z; exact ⟨_, e, rfl⟩) fun z => Rps.allMut r a z
  | .frz e r, a, h => Rps.allMut r a h
  | .dK e _ r, a, h => (List.mem_cons.mp h).elim (fun z => by subst z; exact ⟨_, e, rfl⟩) fun z => Rps.allMut r a z
  | .dT e _ r, a, h => (List.mem_cons.mp h).elim (fun z => by subst z; exact ⟨_, e, rfl⟩) fun z => Rps.allMut r a z
  | .ins e _ _ r, a, h => (List.mem_cons.mp h).elim (fun z => by subst z; exact ⟨_, e, rfl⟩) fun z => Rps.allMut r a z
theorem Rps.allMut {cm : Md} {v : List V} {d : List D} {F : List Addr} : Rps cm H v d F → ∀ a ∈ F, ∃ o, H a = some o ∧ isMut o = true
  | .nil, a, h => nomatch h
  | .cons r s, a, h => (List.mem_append.mp h).elim (fun z => Rp.allMut r a z) fun z => Rps.allMut s a z
end
/-! ### a value given to a name -/
theorem setz_core {Dn : Ends} (hk : c.kd i = .z) (hh : rdS c (sSet i f) Dn σ H) : rd c .z f σ H fun x H1 => Dn.nx (σ.set i (some x)) H1 := by
  obtain ⟨ρ, own, gd, o⟩ := hh
  refine ⟨ρ, own, gd, ?_⟩
  unfold sSet at o
  revert o
  cases f ρ with
  | no => exact id
  | exc y => exact fun o C dd H' e s => o C dd σ H' own e (gd.same s) (.ofSame s)
  | ok d => exact fun o v H1 F s r k => o _ H1 own ((gd.same s).setz hk r k) (.ofSame s)
theorem setOwn_out {Dn : Ends} {v : V} {F : List Addr} {d : D} (gd : Gd c σ H ρ own) (s : Same H H1) (r : Rp c.cm H1 v d F) (k : QOk c (.n []) H own F) (hk : c.kd i = .m ∨ (c.kd i = .r ∧ isRoot d = true))
    (o : ∀ σ' H' own', Gd c σ' H' (ρ.set i (some d)) own' → Ext H own H' own' → Dn.nx σ' H') : Dn.nx (σ.set i (some v)) H1 := by
  have hF : ∀ a ∈ F, H a = none := fun a ha => (k.2 a ha).elim id fun ⟨_, z, _⟩ => nomatch z
  have go : ∀ own', (∀ a ∈ own', a ∈ F) → c.kd i ≠ .z → (match c.kd i with
      | .z => False
      | .m => F.Nodup ∧ F = own'
      | .r => ∃ a F', v = .ref a ∧ F = a :: F' ∧ own' = [a] ∧ ∀ b ∈ F', b ≠ a) → Dn.nx (σ.set i (some v)) H1 := fun own' sub hz ok => by
    obtain ⟨own2, g2, h2⟩ := gd.setOwn s hz r sub hF (fun a ha => r.allMut a (sub a ha)) ok
    exact o _ _ own2 g2 ⟨fun b ob e n => s b ob e, fun b hb n j z => (h2 b j z).elim (n j) fun w => hb (hF b w), Same.dom s⟩
  rcases hk with hk | ⟨hk, hr⟩
  · exact go F (fun _ z => z) (by rw [hk]; decide) (by rw [hk]; exact ⟨k.1, rfl⟩)
  · obtain ⟨a, F', e1, e2, _⟩ := r.mutF hr
    exact go [a] (fun b hb => by rw [e2]; rw [List.mem_singleton] at hb; rw [hb]; exact List.mem_cons_self) (by rw [hk]; decide) (by
      rw [hk]
      refine ⟨a, F', e1, e2, rfl, fun b hb e => ?_⟩
      have := k.1
      rw [e2, List.nodup_cons] at this
      exact this.1 (by rw [← e]; exact hb))
theorem setm_core {Dn : Ends} (hk : c.kd i = .m) (hh : rdS c (sSet i f) Dn σ H) : rd c (.n []) f σ H fun x H1 => Dn.nx (σ.set i (some x)) H1 := by
  obtain ⟨ρ, own, gd, o⟩ := hh
  refine ⟨ρ, own, gd, ?_⟩
  unfold sSet at o
  revert o
  cases f ρ with
  | no => exact id
  | exc y => exact fun o C dd H' e s => o C dd σ H' own e (gd.same s) (.ofSame s)
  | ok d => exact fun o v H1 F s r k => setOwn_out gd s r k (.inl hk) o
theorem setr_core {Dn : Ends} (hk : c.kd i = .r) (hh : rdS c (sSetR i f) Dn σ H) : rd c (.n []) f σ H fun x H1 => Dn.nx (σ.set i (some x)) H1 := by
  obtain ⟨ρ, own, gd, o⟩ := hh
  refine ⟨ρ, own, gd, ?_⟩
  unfold sSetR at o
  revert o
  cases f ρ with
  | no => exact id
  | exc y => exact fun o C dd H' e s => o C dd σ H' own e (gd.same s) (.ofSame s)
  | ok d =>
    intro o v H1 F s r k
    have o' : outS c H own (if isRoot d = true then .nx (ρ.set i (some d)) else .no) Dn := o
    by_cases hr : isRoot d = true
    · rw [if_pos hr] at o'
      exact setOwn_out gd s r k (.inr ⟨hk, hr⟩) o'
    · rw [if_neg hr] at o'
      exact False.elim o'
theorem ds_setz {pos' : Pos} (hk : c.kd i = .z) (hN : X.N.Nodup) (hi : X.N[i]? = some x) (hx : Loc X.env.scope x) (he : DE X c .z e f) (hs : swapsWith e (some (.Name x pos')) pos.line X.env = pure false) (hf : X.fn x = true ∨ X.env.scope.names.lookup x = some .local) :
    DS X c (.Assign [.Name x pos'] e pos) (sSet i f) := PS.imp (ps_set hN hi hx he hs hf) fun D σ H z => setz_core hk z
theorem ds_setm {pos' : Pos} (hk : c.kd i = .m) (hN : X.N.Nodup) (hi : X.N[i]? = some x) (hx : Loc X.env.scope x) (he : DE X c (.n []) e f) (hs : swapsWith e (some (.Name x pos')) pos.line X.env = pure false) (hf : X.fn x = true ∨ X.env.scope.names.lookup x = some .local) :
    DS X c (.Assign [.Name x pos'] e pos) (sSet i f) := PS.imp (ps_set hN hi hx he hs hf) fun D σ H z => setm_core hk z
theorem ds_setr {pos' : Pos} (hk : c.kd i = .r) (hN : X.N.Nodup) (hi : X.N[i]? = some x) (hx : Loc X.env.scope x) (he : DE X c (.n []) e f) (hs : swapsWith e (some (.Name x pos')) pos.line X.env = pure false) (hf : X.fn x = true ∨ X.env.scope.names.lookup x = some .local) :
    DS X c (.Assign [.Name x pos'] e pos) (sSetR i f) := PS.imp (ps_set hN hi hx he hs hf) fun D σ H z => setr_core hk z
theorem ds_asg (he : DE X c .z e f) (hg : DG X c tg h ts) (hs : swapsWithSole [tg] e pos.line X.env = pure false) (hw : swappedStores [tg] e X.env = pure none) (h1 : (assignEach [tg] X.env).map (·.2) = [assign tg X.env]) : DS X c (.Assign [tg] e pos) (sAsg f h) :=
  PS.imp (ps_asg he hg hs hw h1) fun D σ H ⟨ρ, own, gd, o⟩ => ⟨ρ, own, gd, by
    unfold sAsg at o
    revert o
    cases f ρ with
    | no => exact id
    | exc y => exact fun o C dd H' e s => o C dd σ H' own e (gd.same s) (.ofSame s)
    | ok d =>
      intro o v H1 F s r k
      have o' : outS c H own (match h d ρ with
        | some ρ' => .nx ρ'
        | none => .no) D := o
      cases hd : h d ρ with
      | none => rw [hd] at o'; exact False.elim o'
      | some ρ' =>
        rw [hd] at o'
        exact ⟨ρ, own, d, F, gd.same s, r, k, ρ', hd, fun σ' g' _ => o' σ' H1 own g' (.ofSame s)⟩⟩
/-- a comprehension given to a name on the same line -/
theorem setLc_of {te : TE} {f : Env → R D} {G : TG} (h : PS X st (tAsg te G)) (k : ∀ σ H P, rd c q f σ H P → te σ H P) {gs : Env → SR} (kk : ∀ D σ H, rdS c gs D σ H → rd c q f σ H fun x H1 => G x σ H1 D.nx) : DS X c st gs := PS.imp h fun D σ H z => k _ _ _ (kk D σ H z)
end
end Pd
set_option Elab.async false
set_option linter.all false
set_option maxRecDepth 100000
set_option maxHeartbeats 4000000
namespace Pd
open PySem L2
/-! ### loops -/
def forD (h : D → Env → Option Env) (body : Env → SR) : List D → Env → SR
  | [], ρ => .nx ρ
  | d :: ds, ρ => match h d ρ with
    | none => .no
    | some ρ1 => match body ρ1 with
      | .nx ρ2 => forD h body ds ρ2
      | .ct ρ2 => forD h body ds ρ2
      | .bk ρ2 => .nx ρ2
      | .rt d ρ2 => .rt d ρ2
      | .ex x ρ2 => .ex x ρ2
      | .no => .no
def sFor (fi : Env → R (List D)) (h : D → Env → Option Env) (body : Env → SR) : Env → SR := fun ρ => match fi ρ with
  | .ok ds => forD h body ds ρ
  | .exc x => .ex x ρ
  | .no => .no
def whileD (t : Env → R Bool) (body : Env → SR) : Nat → Env → SR
  | 0, _ => .no
  | n + 1, ρ => match t ρ with
    | .ok true => match body ρ with
      | .nx ρ2 => whileD t body n ρ2
      | .ct ρ2 => whileD t body n ρ2
      | .bk ρ2 => .nx ρ2
      | .rt d ρ2 => .rt d ρ2
      | .ex x ρ2 => .ex x ρ2
      | .no => .no
    | .ok false => .nx ρ
    | .exc x => .ex x ρ
    | .no => .no
def sWhile (n : Nat) (t : Env → R Bool) (body : Env → SR) : Env → SR := whileD t body n
section
variable {X : Cx} {c : Cfg} {q qa qk : Q} {tg e ek iter : Expr} {st : Stmt} {a b sts body : List Stmt} {p pos apos cpos : Pos} {f fe fk : Env → R D} {ft : Env → R Bool} {fi fs : Env → R (List D)} {σ : St} {H H1 : Hp} {ρ : Env} {own : Ow} {g g' : Env → SR}
  {h : D → Env → Option Env} {ts : List Nat} {i : Nat} {x : Str}
theorem ds_for (hp : PassesOwn (model X.prog X.w) X.A X.env X.xe) (hc : X.calm = true) (hi : DI X c tg iter fi) (hg : DG X c tg h ts) (hb : DSs X c body g) (hs : ∀ x, foldedSetIterable iter X.env x = pure x) : DS X c (.For tg iter body [] pos) (sFor fi h g) :=
  PS.imp (ps_for hp hc hi hg hb hs) fun Dn σ H ⟨ρ, own, gd, o⟩ => ⟨ρ, own, gd, by
    unfold sFor at o
    cases hf : fi ρ with
    | no => rw [hf] at o; exact o
    | exc y => rw [hf] at o; exact fun C dd H' e s => o C dd σ H' own e (gd.same s) (.ofSame s)
    | ok ds =>
      rw [hf] at o
      have o : outS c H own (forD h g ds ρ) Dn := o
      intro J H1 s1 it
      refine ⟨fun i m σ' H' => m = ds.length - i ∧ i ≤ ds.length ∧ ∃ ρi own', Gd c σ' H' ρi own' ∧ Ext H1 own H' own' ∧ outS c H' own' (forD h g (ds.drop i) ρi) Dn,
        ⟨ds.length, by simp, Nat.zero_le _, ρ, own, gd.same s1, .refl, outS.later (.ofSame s1) o⟩, ?_⟩
      rintro i m σ3 H3 ⟨rfl, hi, ρi, own3, g3, x3, o3⟩
      by_cases hlt : i < ds.length
      · refine .inr ⟨it.go i H3 own3 _ x3 g3.ownM (List.getElem?_eq_getElem hlt), fun σ' H' => i + 1 ≤ ds.length ∧ ∃ ρi own', Gd c σ' H' ρi own' ∧ Ext H1 own H' own' ∧ outS c H' own' (forD h g (ds.drop (i + 1)) ρi) Dn,
          fun σ' H' ⟨a1, a2⟩ => ⟨ds.length - (i + 1), by omega, rfl, a1, a2⟩, fun y H4 hy => ?_⟩
        obtain ⟨s4, F, ry, zy⟩ := it.yld i H3 own3 _ y H4 x3 g3.ownM (List.getElem?_eq_getElem hlt) hy
        rw [List.drop_eq_getElem_cons hlt] at o3
        unfold forD at o3
        cases hh : h ds[i] ρi with
        | none => rw [hh] at o3; exact False.elim o3
        | some ρ1 =>
          rw [hh] at o3
          refine ⟨ρi, own3, ds[i], F, g3.same s4, ry, zy, ρ1, hh, fun σ5 g5 _ => ⟨ρ1, own3, g5, ?_⟩⟩
          have x4 : Ext H3 own3 H4 own3 := .ofSame s4
          have o4 := outS.later x4 o3
          revert o4
          show outS c H4 own3 (match g ρ1 with
            | .nx ρ2 => forD h g (ds.drop (i + 1)) ρ2
            | .ct ρ2 => forD h g (ds.drop (i + 1)) ρ2
            | .bk ρ2 => .nx ρ2
            | .rt d ρ2 => .rt d ρ2
            | .ex x ρ2 => .ex x ρ2
            | .no => .no) Dn → _
          cases g ρ1 with
          | nx ρ2 => exact fun o4 σ' H' own' g' x' => ⟨hlt, ρ2, own', g', (x3.trans x4).trans x', outS.later x' o4⟩
          | ct ρ2 => exact fun o4 σ' H' own' g' x' => ⟨hlt, ρ2, own', g', (x3.trans x4).trans x', outS.later x' o4⟩
          | bk ρ2 => exact id
          | rt d ρ2 => exact id
          | ex y ρ2 => exact id
          | no => exact id
      · have hie : i = ds.length := by omega
        subst hie
        rw [List.drop_length] at o3
        exact .inl ⟨it.stop _ H3 own3 x3 g3.ownM (Nat.le_refl _), o3 σ3 H3 own3 g3 .refl⟩⟩
theorem ds_while {te : Expr} (n : Nat) (hp : PassesOwn (model X.prog X.w) X.A X.env X.xe) (ht : DT X c te ft) (hb : DSs X c body g) : DS X c (.While te body [] pos) (sWhile n ft g) :=
  PS.imp (ps_while hp ht hb) fun Dn σ H ⟨ρ, own, gd, o⟩ => by
    refine ⟨fun m σ' H' => ∃ ρi own', Gd c σ' H' ρi own' ∧ outS c H' own' (whileD ft g m ρi) Dn, ⟨n, ρ, own, gd, o⟩, ?_⟩
    rintro m σ3 H3 ⟨ρi, own3, g3, o3⟩
    cases m with
    | zero => exact False.elim o3
    | succ m =>
      unfold whileD at o3
      refine ⟨ρi, own3, g3, ?_⟩
      cases hf : ft ρi with
      | no => rw [hf] at o3; exact o3
      | exc y => rw [hf] at o3; exact fun C dd H' e s => o3 C dd σ3 H' own3 e (g3.same s) (.ofSame s)
      | ok b =>
        rw [hf] at o3
        rintro b' H4 F s4 ⟨rfl, rfl⟩ _
        have x4 : Ext H3 own3 H4 own3 := .ofSame s4
        have o4 := outS.later x4 o3
        cases b' with
        | false =>
          rw [if_neg Bool.false_ne_true]
          exact o4 σ3 H4 own3 (g3.same s4) .refl
        | true =>
          rw [if_pos rfl]
          refine ⟨fun σ' H' => ∃ ρi own', Gd c σ' H' ρi own' ∧ outS c H' own' (whileD ft g m ρi) Dn, fun σ' H' w => ⟨m, Nat.lt_succ_self m, w⟩, ρi, own3, g3.same s4, ?_⟩
          revert o4
          show outS c H4 own3 (match g ρi with
            | .nx ρ2 => whileD ft g m ρ2
            | .ct ρ2 => whileD ft g m ρ2
            | .bk ρ2 => .nx ρ2
            | .rt d ρ2 => .rt d ρ2
            | .ex x ρ2 => .ex x ρ2
            | .no => .no) Dn → _
          cases g ρi with
          | nx ρ2 => exact fun o4 σ' H' own' g' x' => ⟨ρ2, own', g', outS.later x' o4⟩
          | ct ρ2 => exact fun o4 σ' H' own' g' x' => ⟨ρ2, own', g', outS.later x' o4⟩
          | bk ρ2 => exact id
          | rt d ρ2 => exact id
          | ex y ρ2 => exact id
          | no => exact id
/-! ### an owned object is written -/
theorem Gd.write {Hs : Hp} {d' : D} {ad : Addr} {o' : HO} {F' L : List Addr} (gd : Gd c σ Hs ρ own) (s : Same Hs H) (hv : σ[i]? = some (some (.ref ad))) (hi : i < ρ.length) (ha : ad ∈ own i) (r : Rp c.cm (upd H ad o') (.ref ad) d' (ad :: F')) (hm : isMut o' = true)
    (hL : ∀ b ∈ L, b ∈ own i ∨ (Hs b = none ∧ b ∈ F')) (haL : ad ∈ L)
    (ok : match c.kd i with
      | .z => False
      | .r => L = [ad] ∧ ∀ b ∈ F', c.B b ∧ ∀ j, b ∉ own j
      | .m => (ad :: F').Nodup ∧ ad :: F' = L) :
    ∃ own', Gd c σ (upd H ad o') (ρ.set i (some d')) own' ∧ Ext Hs own (upd H ad o') own' := by
  have gs := gd.same s
  have hk : c.kd i ≠ .z := fun e => by rw [e] at ok; exact ok
  have mem : ∀ {j : Nat} {a : Addr}, a ∈ (fun j => if j = i then L else own j : Ow) j → (j = i ∧ a ∈ L) ∨ (j ≠ i ∧ a ∈ own j) := fun {j a} h => by
    by_cases e : j = i
    · exact .inl ⟨e, by simpa [e] using h⟩
    · exact .inr ⟨e, by simpa [e] using h⟩
  have Ha : H ad ≠ none := by
    obtain ⟨o, e, _⟩ := gs.ownM i ad ha
    rw [e]; exact Option.some_ne_none _
  have keep : ∀ b o, H b = some o → b ≠ ad → upd H ad o' b = some o := fun b o e hb => by rw [upd_ne hb]; exact e
  have dom : ∀ b, H b ≠ none → upd H ad o' b ≠ none := fun b hb => by
    by_cases e : b = ad
    · subst e; rw [upd_same]; exact Option.some_ne_none _
    · rw [upd_ne e]; exact hb
  have other : ∀ {j : Nat} {a : Addr}, j ≠ i → a ∈ own j → a ≠ ad := fun {j a} hj h e => hj (gd.disj j i a h (by rw [e]; exact ha))
  have Lnot : ∀ {j : Nat} {a : Addr}, j ≠ i → a ∈ own j → a ∉ L := fun {j a} hj h z => by
    rcases hL a z with w | ⟨w, _⟩
    · exact hj (gd.disj j i a h w)
    · obtain ⟨o, e, _⟩ := gd.ownM j a h
      rw [w] at e; cases e
  refine ⟨fun j => if j = i then L else own j, ⟨by rw [List.length_set]; exact gd.len, fun b o h n => ?_, fun b h => dom b (gs.dom b h), fun j b h => ?_, fun j b h => ?_, fun j b h => ?_, fun j k b h h' => ?_, fun j hj hkz => ?_, ?_, fun j d hj => ?_⟩, ⟨fun b o h n => ?_, fun b h n j z => ?_, fun b h => dom b (Same.dom s b h)⟩⟩
  · refine keep b o (gs.base b o h n) fun e => ?_
    subst e
    rcases gd.ownN i b ha with z | z
    · rw [z] at h; cases h
    · exact n z
  · rcases mem h with ⟨_, h⟩ | ⟨_, h⟩
    · rcases hL b h with w | ⟨w, _⟩
      · exact gd.ownB i b w
      · exact gd.newB w
    · exact gd.ownB j b h
  · rcases mem h with ⟨_, h⟩ | ⟨_, h⟩
    · rcases hL b h with w | ⟨w, _⟩
      · exact gd.ownN i b w
      · exact .inl (gd.new w)
    · exact gd.ownN j b h
  · rcases mem h with ⟨_, h⟩ | ⟨hj, h⟩
    · by_cases e : b = ad
      · subst e; exact ⟨o', upd_same, hm⟩
      · rcases hL b h with w | ⟨_, w⟩
        · obtain ⟨o, e1, e2⟩ := gs.ownM i b w
          exact ⟨o, keep b o e1 e, e2⟩
        · exact r.allMut b (List.mem_cons_of_mem _ w)
    · obtain ⟨o, e1, e2⟩ := gs.ownM j b h
      exact ⟨o, keep b o e1 (other hj h), e2⟩
  · rcases mem h with ⟨e1, h1⟩ | ⟨e1, h1⟩ <;> rcases mem h' with ⟨e2, h2⟩ | ⟨e2, h2⟩
    · rw [e1, e2]
    · exact absurd h1 (Lnot e2 h2)
    · exact absurd h2 (Lnot e1 h1)
    · exact gd.disj j k b h1 h2
  · rw [List.length_set] at hj
    show (if j = i then L else own j) = []
    rw [if_neg (fun e => hk (by rw [← e]; exact hkz))]
    exact gd.zer j hj hkz
  · obtain ⟨N, h1, h2⟩ := gd.sp
    rw [List.length_set]
    exact ⟨N, h1, fun j hj => by
      show (if j = i then L else own j) = []
      rw [if_neg (by omega)]; exact h2 j hj⟩
  · by_cases e : i = j
    · subst e
      rw [List.getElem?_set_self hi] at hj
      cases hj
      refine ⟨_, _, hv, r, ?_⟩
      unfold SOk
      revert ok
      cases c.kd i with
      | z => exact False.elim
      | m => exact fun ok => ⟨ok.1, by simpa using ok.2⟩
      | r =>
        rintro ⟨e1, e2⟩
        refine ⟨ad, F', rfl, rfl, by simpa using e1, fun b hb => ⟨(e2 b hb).1, fun j z => ?_⟩⟩
        rcases mem z with ⟨_, z⟩ | ⟨_, z⟩
        · rw [e1, List.mem_singleton] at z
          subst z
          exact (e2 b hb).2 i ha
        · exact (e2 b hb).2 j z
    · rw [List.getElem?_set_ne e] at hj
      obtain ⟨v', F2, h1, h2, h3⟩ := gd.slot j d hj
      have oj : (if j = i then L else own j) = own j := if_neg (Ne.symm e)
      have nput : ∀ a ∈ F2, (∀ k, a ∉ own k) → ∀ k, a ∉ (fun j => if j = i then L else own j : Ow) k := fun a haF hn k z => (mem z).elim (fun w => (hL a w.2).elim (hn i) fun u => h2.trk a haF u.1) fun w => hn k w.2
      have noad : ad ∉ F2 := fun z => by
        unfold SOk at h3
        revert h3
        cases c.kd j with
        | z => exact fun h3 => (h3 ad z).2 i ha
        | m => exact fun h3 => other (Ne.symm e) (by rw [← h3.2]; exact z) rfl
        | r =>
          rintro ⟨a, F3, e1, e2, e3, e4⟩
          rw [e2] at z
          rcases List.mem_cons.mp z with z | z
          · exact other (Ne.symm e) (by rw [e3, z]; exact List.mem_cons_self) rfl
          · exact (e4 ad z).2 i ha
      refine ⟨v', F2, h1, (h2.same s).mono fun b o eb z => keep b o eb fun e' => ?_, ?_⟩
      · subst e'
        rcases z with z | z
        · exact noad z
        · obtain ⟨o2, e2, m2⟩ := gs.ownM i b ha
          rw [eb] at e2; cases e2; rw [z] at m2; cases m2
      · unfold SOk at h3 ⊢
        revert h3
        cases c.kd j with
        | z => exact fun h3 a ha => ⟨(h3 a ha).1, nput a ha (h3 a ha).2⟩
        | m => exact fun h3 => ⟨h3.1, h3.2.trans oj.symm⟩
        | r => exact fun ⟨a, F3, e1, e2, e3, e4⟩ => ⟨a, F3, e1, e2, oj.trans e3, fun b hb => ⟨(e4 b hb).1, nput b (by rw [e2]; exact List.mem_cons_of_mem _ hb) (e4 b hb).2⟩⟩
  · refine keep b o (s b o h) fun e => ?_
    subst e
    exact n i ha
  · rcases mem z with ⟨_, z⟩ | ⟨_, z⟩
    · rcases hL b z with w | ⟨w, _⟩
      · exact n i w
      · exact h w
    · exact n j z
/-- an r-slot's root object gets new content, its items anybody's -/
theorem Gd.writeR {Hs : Hp} {d d' : D} {ad : Addr} {o' : HO} {F0 F' : List Addr} {v : V} (gd : Gd c σ Hs ρ own) (s : Same Hs H) (hk : c.kd i = .r) (hρ : ρ[i]? = some (some d)) (hσ : σ[i]? = some (some v)) (hr : Rp c.cm Hs v d F0) (hv : v = .ref ad) (sok : SOk c own i v F0)
    (r : Rp c.cm (upd H ad o') (.ref ad) d' (ad :: F')) (hm : isMut o' = true) (hF : ∀ b ∈ F', c.B b ∧ ∀ j, b ∉ own j) : ∃ own', Gd c σ (upd H ad o') (ρ.set i (some d')) own' ∧ Ext Hs own (upd H ad o') own' := by
  unfold SOk at sok
  rw [hk] at sok
  obtain ⟨a, F', e1, e2, e3, e4⟩ := sok
  subst hv
  cases e1
  exact gd.write s hσ (List.getElem?_eq_some_iff.mp hρ).1 (by rw [e3]; exact List.mem_cons_self) r hm (L := [ad]) (fun b hb => .inl (by rw [e3]; exact hb)) List.mem_cons_self (by rw [hk]; exact ⟨rfl, hF⟩)
/-! ### append -/
def sApp (i : Nat) (f : Env → R D) : Env → SR := fun ρ => match ρ[i]? with
  | some (some (.lst xs)) => match f ρ with
    | .ok y => if xs.length < SZ then .nx (ρ.set i (some (.lst (xs ++ [y])))) else .no
    | .exc x => .ex x ρ
    | .no => .no
  | _ => .no
theorem rootR {v : V} {d : D} {F : List Addr} {ad : Addr} (hk : c.kd i = .r) (sok : SOk c own i v F) (hv : v = .ref ad) : own i = [ad] ∧ ∃ G, F = ad :: G ∧ (∀ b ∈ G, c.B b ∧ ∀ j, b ∉ own j) ∧ ad ∉ G := by
  unfold SOk at sok
  rw [hk] at sok
  obtain ⟨a, F', e1, e2, e3, e4⟩ := sok
  subst hv
  cases e1
  exact ⟨e3, F', e2, e4, fun z => (e4 _ z).2 i (by rw [e3]; exact List.mem_cons_self)⟩
theorem ds_append (hk : c.kd i = .r) (hN : X.N[i]? = some x) (hv : Vis X.env.scope x) (hd : (x == ("__debug__" : Str)) = false) (hcd : (x == ("__classdict__" : Str)) = false) (he : DE X c .z e f)
    (hb : attributeBase (.Name x p) "append" X.env (eval (.Name x p) X.env) = eval (.Name x p) X.env)
    (hfew : ((backTo cpos (starEach [e] X.env)).all (fun x => !x.1) && (backToKw cpos (keywordEach [] X.env)).all (fun x => x.1.isSome) && decide ([e].length + ([] : List Keyword).length + (if ([] : List Keyword).isEmpty then 0 else 1) < 30)) = true)
    (hline : (apos.endLine == cpos.line) = true) (hst : starEach [e] X.env = (false, eval e X.env) :: starEach [] X.env) (hpl : (backTo cpos (starEach [] X.env)).any (·.1) = false)
    (hs : swapsWith (.Call (.Attribute (.Name x p) "append" apos) [e] [] cpos) none pos.line X.env = pure false) :
    DS X c (.Expr (.Call (.Attribute (.Name x p) "append" apos) [e] [] cpos) pos) (sApp i f) :=
  PS.imp (ps_expr (pe_bm PySem.F.plainAttrs_list PySem.F.slot_list_append PySem.F.type_list_append mt_append (pe_var hN hv hd hcd) (pa_cons he pa_nil hst) hb hfew hline hst hpl) hs) fun Dn σ H ⟨ρ, own, gd, o⟩ => by
    unfold sApp at o
    cases hρ : ρ[i]? with
    | none => rw [hρ] at o; exact False.elim o
    | some d0 =>
      rw [hρ] at o
      cases d0 with
      | none => exact False.elim o
      | some d =>
        cases d with
        | lst xs =>
          obtain ⟨v, F, hσ, r, sok⟩ := gd.slot i _ hρ
          obtain ⟨ad, vs, G, hv', hH, hF, rr⟩ := r.listed
          obtain ⟨ho, G', e1, hG, nG⟩ := rootR (d := .lst xs) hk sok hv'
          rw [hF] at e1
          cases e1
          refine ⟨v, hσ, by rw [hv']; exact .inl ⟨rfl, vs, .of hH⟩, ρ, own, gd, ?_⟩
          have o2 : outS c H own (match f ρ with
            | .ok y => if xs.length < SZ then .nx (ρ.set i (some (.lst (xs ++ [y])))) else .no
            | .exc x => .ex x ρ
            | .no => .no) Dn := o
          revert o2
          cases f ρ with
          | no => exact id
          | exc y => exact fun o C dd H' e s => o C dd σ H' own e (gd.same s) (.ofSame s)
          | ok y =>
            intro o2 u H1 Fy s1 ry ky
            have o3 : outS c H own (if xs.length < SZ then .nx (ρ.set i (some (.lst (xs ++ [y])))) else .no) Dn := o2
            by_cases hl : xs.length < SZ
            · rw [if_pos hl] at o3
              have had : ∀ j, ad ∈ own j → j = i := fun j z => gd.disj j i ad z (by rw [ho]; exact List.mem_cons_self)
              have nFy : ad ∉ Fy := fun z => (ky ad z).2 i (by rw [ho]; exact List.mem_cons_self)
              have rq := ((rr.same s1).append (.one ry)).mono (H' := upd H1 ad (.lst (vs ++ [u]))) fun b ob eb z => by
                rw [upd_ne (fun e => ?_)]; exact eb
                subst e
                rcases z with z | z
                · exact (List.mem_append.mp z).elim nG nFy
                · rw [s1 _ _ hH] at eb; cases eb; cases z
              obtain ⟨own', g', x'⟩ := gd.writeR s1 hk hρ hσ r hv' sok (.lst upd_same rq) rfl fun b hb => (List.mem_append.mp hb).elim (hG b) (ky b)
              exact ⟨ad, vs, u, hv', rfl, s1 _ _ hH, Nat.lt_of_lt_of_le (by rw [rr.length]; exact hl) SZ_le, o3 σ _ own' g' x'⟩
            · rw [if_neg hl] at o3
              exact False.elim o3
        | _ => exact False.elim o
end
end Pd
set_option Elab.async false
set_option linter.all false
set_option maxRecDepth 100000
set_option maxHeartbeats 4000000
namespace Pd
open PySem PySem.Spec PyProof.Rows L2
/-! ### defs -/
/-- what a def promises: from data to data; nothing that stood is changed -/
def spD (cm : Md) (n : Nat) (fr : Bool) (Fn : List D → R D) : Sp := fun vs H P E => vs.length = n ∧ ∃ ds FF, Rps cm H vs ds FF ∧ match Fn ds with
  | .ok d => ∀ v H' G, Same H H' → Rp cm H' v d G → (if fr = true then G.Nodup ∧ ∀ a ∈ G, H a = none else ∀ a ∈ G, a ∈ FF ∨ H a = none) → P v H'
  | .exc x => ∀ C dd H', cm.cm x = some C → Same H H' → E (.ref C) dd H'
  | .no => False
def callD (np n : Nat) (g : Env → SR) : List D → R D := fun ds => if ds.length = np then (match g (ds.map some ++ List.replicate (n - ds.length) none) with
  | .rt d _ => .ok d
  | .nx _ => .ok .non
  | .ex x _ => .exc x
  | _ => .no) else .no
theorem ln_callD {np n : Nat} {g : Env → SR} : (∀ ds d, callD np n g ds = .ok d → ds.length = np) ∧ ∀ ds x, callD np n g ds = .exc x → ds.length = np := by
  refine ⟨fun ds d h => ?_, fun ds d h => ?_⟩ <;> (unfold callD at h; split at h <;> first | assumption | cases h)
def zKd : Nat → Kd := fun _ => .m
theorem spD_start {cm : Md} {kd : Nat → Kd} {fr : Bool} {n nN : Nat} {g : Env → SR} {vs : List V} {H : Hp} {P : VK} {E : XK} {N : List Str} (hN : N.length = nN) (hle : n ≤ nN) (hkp : ∀ i, i < n → kd i = .z)
    (h : spD cm n fr (callD n nN g) vs H P E) : ∃ c : Cfg, c.cm = cm ∧ c.kd = kd ∧ c.fr = fr ∧ c.W = (fun cls d _ H => E cls d H) ∧ (∀ a, ¬ c.io a) ∧ rdS c g { nx := fun _ H' => P .non H', rt := P } (L2.start N vs) H := by
  obtain ⟨hl, ds, FF, r, h⟩ := h
  have hd := r.length
  refine ⟨⟨cm, kd, (· ∈ FF), H, fun _ => False, fun cls d _ H => E cls d H, fr⟩, rfl, rfl, rfl, rfl, fun _ z => z, ds.map some ++ List.replicate (nN - ds.length) none, fun _ => [], ?_, ?_⟩
  · refine ⟨by unfold L2.start; simp [hN, hd], fun b o h _ => h, fun b h => h, (fun _ _ z => nomatch z), (fun _ _ z => nomatch z), (fun _ _ z => nomatch z), (fun _ _ _ z => nomatch z), fun _ _ _ => rfl, ⟨_, Nat.le_refl _, fun _ _ => rfl⟩, fun i d hi => ?_⟩
    by_cases hlt : i < ds.length
    · rw [List.getElem?_append_left (by simpa using hlt), List.getElem?_map] at hi
      cases hx : ds[i]? with
      | none => rw [hx] at hi; cases hi
      | some d' =>
        rw [hx] at hi
        cases hi
        obtain ⟨v, G, h1, h2, h3⟩ := r.get hx
        refine ⟨v, G, ?_, h2, ?_⟩
        · unfold L2.start
          rw [List.getElem?_append_left (by simp; omega), List.getElem?_map, h1]
          rfl
        · unfold SOk
          rw [show (⟨cm, kd, (· ∈ FF), H, fun _ => False, fun cls d _ H => E cls d H, fr⟩ : Cfg).kd i = .z from hkp i (by omega)]
          exact fun a ha => ⟨.inl (h3.subset ha), fun _ z => nomatch z⟩
    · rw [List.getElem?_append_right (by simpa using hlt), List.getElem?_replicate] at hi
      split at hi <;> cases hi
  · have h : match callD n nN g ds with
      | .ok d => ∀ v H' G, Same H H' → Rp cm H' v d G → (if fr = true then G.Nodup ∧ ∀ a ∈ G, H a = none else ∀ a ∈ G, a ∈ FF ∨ H a = none) → P v H'
      | .exc x => ∀ C dd H', cm.cm x = some C → Same H H' → E (.ref C) dd H'
      | .no => False := h
    unfold callD at h
    rw [if_pos (by omega)] at h
    revert h
    cases g (ds.map some ++ List.replicate (nN - ds.length) none) with
    | nx ρ' => exact fun h σ' H' own' g' x' => h .non H' [] (fun b o e => g'.base b o e fun z => z) .non (by split <;> simp)
    | bk ρ' => exact fun h => False.elim h
    | ct ρ' => exact fun h => False.elim h
    | rt d ρ' => exact fun h v σ' H' own' F g' x' r' rq => h v H' F (fun b o e => g'.base b o e fun z => z) r' rq
    | ex x ρ' => exact fun h C dd σ' H' own' e g' x' => h C dd H' e (fun b o e => g'.base b o e fun z => z)
    | no => exact fun h => False.elim h
section
variable {P : Program} {w : World} {K : PySem.W.Frag} {mg : Str → Option Value} {base : Heap}
abbrev mkC (cm : Md) (kd : Nat → Kd) (A : Addr → Prop) (H0 : Hp) (io : Addr → Prop) (E : XK) (fr : Bool) : Cfg := ⟨cm, kd, A, H0, io, fun cls d _ H => E cls d H, fr⟩
/-- THE RULE for a def -/
theorem fn_ok {x qual : Str} {params : Arguments} {body : List Stmt} {scope : Scope} {dvs : List V} {kws : List (Str × V)} {f : Addr} {fd : FuncData} {N ps : List Str} {k : Nat} {cm : Md} {fr : Bool} {g : Env → SR} {kd : Nat → Kd} (F : FunD K x qual params body scope dvs kws f fd) (S : FnScope N ps scope)
    (hkp : ∀ i, i < ps.length → kd i = .z) (hle : ps.length ≤ N.length)
    (hb : ∀ (cdv : Value) (A : Around) (outer : List PySem.Env) (s : Shared) (H : Hp) (E : XK) (Ad : Addr → Prop) (H0 : Hp) (io : Addr → Prop), (∀ a, ¬ io a) → Room k (A.deeper (envOfC qual scope s.heap.objs.size f cdv)) →
      DSs (cxOf (L2.CX P w) P w K mg base N qual scope f cdv A outer s H E) (mkC cm kd Ad H0 io E fr) body g) : FnOk P w K mg base (L2.CX P w) (k + 1) f fd ps (spD cm ps.length fr (callD ps.length N.length g)) := by
  refine F.ok S (fun vs H P E h => h.1) fun cdv A outer s H vs P E hr h => ?_
  obtain ⟨⟨cm', kd', A', H0', io', W', fr'⟩, h1, h2, h3, h4, h5, h6⟩ := spD_start (N := N) (kd := kd) rfl hle hkp h
  cases h1; cases h2; cases h3; cases h4
  exact ⟨_, hb cdv A outer s H E A' H0' io' h5 hr, h6⟩
/-- the law's own def: nothing is let out -/
theorem fn_law {fa : Addr} {fd : FuncData} {ps : List Str} {k : Nat} {sp sp0 : Sp} (F : FnOk P w K mg base (L2.CX P w) k fa fd ps sp) (h : ∀ vs H Q E, sp0 vs H Q E → sp vs H Q fun _ _ _ => False) : FnOk P w K mg base CX0 k fa fd ps sp0 :=
  ⟨fun vs H Q E z => F.len vs H Q _ (h _ _ _ _ z), fun A outer s H args us vs Q E hr he hb hv hs => codeAny_mono (F.run A outer s H args us vs Q (fun _ _ _ => False) hr he hb hv (h _ _ _ _ hs)) fun r s' hq => by
    match r, hq with
    | .error e, hq => obtain ⟨_, _, _, _, _, _, _, _, _, _, _, _, z⟩ := hq; exact z
    | .ok (.ret u), hq => exact hq
    | .ok .next, hq => exact False.elim hq
    | .ok .brk, hq => exact False.elim hq
    | .ok .cont, hq => exact False.elim hq⟩
theorem rps_ints {cm : Md} {H : Hp} : ∀ ns : List Int, Rps cm H (ns.map V.int) (ns.map D.int) []
  | [] => .nil
  | n :: ns => .cons (.int n) (rps_ints ns)
end
end Pd
set_option Elab.async false
set_option linter.all false
set_option maxRecDepth 100000
set_option maxHeartbeats 4000000
namespace Pd
open PySem PySem.Spec PyProof.Rows L2
/-! ### calls of defs -/
inductive Qc : Bool → Q → Q → Prop
  | fr {qa : Q} : Qc true qa (.n [])
  | z : Qc false .z .z
  | n : Qc false (.n []) .z
  | b {qa : Q} : Qc false qa .b
def fCall (Fn : List D → R D) (dds : List D) (fs : Env → R (List D)) : Env → R D := fun ρ => (fs ρ).bind fun ds => Fn (ds ++ dds)
section
variable {X : Cx} {c : Cfg} {q qa : Q} {e : Expr} {es : List Expr} {p pos : Pos} {fs : Env → R (List D)} {σ : L2.St} {H H1 : Hp} {ρ : Env} {own : Ow} {k : Nat} {fa : Addr} {fd : FuncData} {ps : List Str} {fr : Bool} {Fn : List D → R D} {ds : List Value} {dvs : List V} {dds : List D} {x : Str}
theorem run_d {pins : List (Addr × Obj)} {s : Shared} {P : VK} {us : List Value} {vs : List V} {sp : Sp} {E : XK} (F : FnOk X.prog X.w X.K X.mg X.base (L2.CX X.prog X.w) k fa fd ps sp) (hr : Room k X.A) (hb : Binds X.K fd ps ds) (hd : Vals dvs ds) (hx : PassesAt (L2.CX X.prog X.w) X σ E)
    (I : Inv X pins σ H s) (r : Vals vs us) (h : sp (vs ++ dvs) H P E) : wpAny (model X.prog X.w) X.A (call (.ref fa) us) (EP X pins σ P) X.xe s := by
  have r2 := r.append hd
  have hl : (us ++ ds).length = ps.length := r2.length.symm.trans (F.len _ _ _ _ h)
  refine wpAny_call (codeAny_mono (F.run X.A X.stack s H ⟨us, []⟩ (us ++ ds) (vs ++ dvs) P E hr I.env0 (hb s us I.kIn hl) r2 h) fun r s' hq => ?_)
  match r, hq with
  | .error e, hq => exact hx pins H s e s' I hq
  | .ok (.ret u), hq => exact I.after hq
  | .ok .next, hq => exact False.elim hq
  | .ok .brk, hq => exact False.elim hq
  | .ok .cont, hq => exact False.elim hq
theorem call_core {P : VK} (hq : Qc fr qa q) (hdd : ∀ H, Rps c.cm H dvs dds []) (ln : (∀ ds' d, Fn ds' = .ok d → ds'.length = ps.length) ∧ ∀ ds' d, Fn ds' = .exc d → ds'.length = ps.length) (hh : rd c q (fCall Fn dds fs) σ H P) :
    rdL c qa fs σ H fun vs H1 => spD c.cm ps.length fr Fn (vs ++ dvs) H1 P (WE c.W σ) := by
  obtain ⟨ρ, own, g, o⟩ := hh
  refine ⟨ρ, own, g, outR.bind o fun ds' vs H1 F hd s1 r1 k1 o1 => ?_⟩
  have rr := r1.append (hdd H1)
  rw [List.append_nil] at rr
  have len : (vs ++ dvs).length = (ds' ++ dds).length := rr.length
  revert o1
  unfold spD
  cases hF : Fn (ds' ++ dds) with
  | no => exact fun o1 => False.elim o1
  | exc y => exact fun o1 => ⟨len.trans (ln.2 _ _ hF), _, F, rr, by rw [hF]; exact fun C dd H' e s' => o1 C dd H' e (s1.trans s')⟩
  | ok d =>
    refine fun o1 => ⟨len.trans (ln.1 _ _ hF), _, F, rr, by
      rw [hF]
      intro v H' G s' r' rq
      refine o1 v H' G (s1.trans s') r' ?_
      cases hq with
      | fr =>
        rw [if_pos rfl] at rq
        exact ⟨rq.1, fun a ha => .inl (s1.free (rq.2 a ha))⟩
      | z =>
        rw [if_neg Bool.false_ne_true] at rq
        exact fun a ha => (rq a ha).elim (k1 a) fun z => ⟨g.newB (s1.free z), g.newOwn (s1.free z)⟩
      | n =>
        rw [if_neg Bool.false_ne_true] at rq
        exact fun a ha => (rq a ha).elim (k1.z_of_n g a) fun z => ⟨g.newB (s1.free z), g.newOwn (s1.free z)⟩
      | b =>
        rw [if_neg Bool.false_ne_true] at rq
        exact fun a ha => (rq a ha).elim (k1.b g a) fun z => g.newB (s1.free z)⟩
/-- f(e, ..) -/
theorem de_call (F : FnOk X.prog X.w X.K X.mg X.base (L2.CX X.prog X.w) k fa fd ps (spD c.cm ps.length fr Fn)) (hr : Room k X.A) (hg : Gl X x) (hm : X.mg x = some (.ref fa)) (hk : PySem.W.keepIn X.K (.ref fa) = true) (hb : Binds X.K fd ps ds) (hd : Vals dvs ds) (hdd : ∀ H, Rps c.cm H dvs dds [])
    (ln : (∀ ds' d, Fn ds' = .ok d → ds'.length = ps.length) ∧ ∀ ds' d, Fn ds' = .exc d → ds'.length = ps.length) (tk : Takes X c.W) (hq : Qc fr qa q) (ha : DA X c qa (e :: es) fs)
    (hdb : (x == ("__debug__" : Str)) = false) (he : starEach (e :: es) X.env = (false, eval e X.env) :: starEach es X.env) (hpl : (backTo pos (starEach es X.env)).any (·.1) = false) :
    DE X c q (.Call (.Name x p) (e :: es) [] pos) (fCall Fn dds fs) := by
  refine ⟨fun pins s σ H P I h => ?_⟩
  refine wpAny_Call_Name_kw (ld_glob I hg hm ?_ hdb)
  have hh := call_core (ps := ps) hq hdd ln h
  refine PySem.W.callWith_K (h₀ := X.base) I.ok.mod.kin hk (thn (ha.run pos pins s σ H _ I hh) fun us s1 ⟨vs, H1, I1, r, q1⟩ => ⟨I1.kIn, ?_⟩) he hpl
  exact run_d F hr hb hd (passAt tk σ) I1 r q1
end
end Pd
set_option Elab.async false
set_option linter.all false
set_option maxRecDepth 100000
set_option maxHeartbeats 4000000
namespace Pd
open PySem PySem.Spec PyProof.Rows L2
/-! ### more that is walked -/
def rngD (n : Int) : List D := (List.range n.toNat).map fun i => D.int (i : Nat)
def fRange (f : Env → R D) : Env → R (List D) := fun ρ => (f ρ).bind fun d => match d with
  | .int n => if -1000000 ≤ n ∧ n ≤ 1000000 then .ok (rngD n) else .no
  | _ => .no
def enumD (i : Nat) : List D → List D
  | [] => []
  | d :: ds => .tup [.int (i : Nat), d] :: enumD (i + 1) ds
def fEnum (f : Env → R D) : Env → R (List D) := fun ρ => (f ρ).bind fun d => match itmL d with
  | some xs => .ok (enumD 0 xs)
  | none => .no
def zipD : List D → List D → List D
  | x :: xs, y :: ys => .tup [x, y] :: zipD xs ys
  | _, _ => []
section
variable {X : Cx} {c : Cfg} {q qa : Q} {tg e e2 : Expr} {p pos tpos : Pos} {f fb : Env → R D} {σ : L2.St} {H H1 : Hp} {ρ : Env} {own : Ow}
theorem di_range (hg : Gl X "range") (hm : X.mg "range" = none) (ha : DE X c qa e f) (hs : starEach [e] X.env = [(false, eval e X.env)]) (hs' : starEach [e] X.env = (false, eval e X.env) :: starEach [] X.env) : DI X c tg (.Call (.Name "range" p) [e] [] pos) (fRange f) :=
  PI.imp (pi_range1 hg hm (pa_cons ha pa_nil hs') hs) fun σ H Rr ⟨ρ, own, g, o⟩ => ⟨ρ, own, g, by
    unfold fRange at o
    cases hf : f ρ with
    | no => rw [hf] at o; exact o
    | exc x => rw [hf] at o; exact o
    | ok d =>
      rw [hf] at o
      intro v H1 F s1 r1 k1
      have o' : match (match d with
        | .int n => if -1000000 ≤ n ∧ n ≤ 1000000 then R.ok (rngD n) else .no
        | _ => .no) with
        | .ok ds => ∀ J H1, Same H H1 → ItOk c H1 own J ds → Rr J H1
        | .exc x => ∀ C dd H', c.cm.cm x = some C → Same H H' → c.W (.ref C) dd σ H'
        | .no => False := o
      cases r1 with
      | int n =>
        by_cases hn : -1000000 ≤ n ∧ n ≤ 1000000
        · rw [show (match D.int n with
            | .int n => if -1000000 ≤ n ∧ n ≤ 1000000 then R.ok (rngD n) else .no
            | _ => .no) = R.ok (rngD n) from if_pos hn] at o'
          · refine ⟨n, rfl, by omega, by omega, o' _ H1 s1 ⟨fun i H own' d x _ hd => ?_, fun i H own' d y H' x _ hd hy => ?_, fun i H own' x _ hi => ?_⟩⟩
            · have := (List.getElem?_eq_some_iff.mp hd).1
              show i < n.toNat
              simpa [rngD] using this
            · obtain ⟨e1, e2⟩ := hy
              subst e1 e2
              have hi := (List.getElem?_eq_some_iff.mp hd).1
              simp only [rngD, List.length_map, List.length_range] at hi
              have hd2 : some (D.int ((i : Nat) : Int)) = some d := by
                rw [← hd]
                simp [rngD, hi]
              cases hd2
              refine ⟨Same.refl _, [], ?_, fun a h => nomatch h⟩
              have : (0 : Int) + ((i : Nat) : Int) = ((i : Nat) : Int) := by omega
              rw [this]
              exact .int _
            · show n.toNat ≤ i
              simpa [rngD] using hi
        · rw [show (match D.int n with
            | .int n => if -1000000 ≤ n ∧ n ≤ 1000000 then R.ok (rngD n) else .no
            | _ => .no) = R.no from if_neg hn] at o'
          exact False.elim o'
      | _ => exact False.elim o'⟩
theorem enumD_get : ∀ (ds : List D) (k i : Nat), (enumD k ds)[i]? = (ds[i]?).map fun d => .tup [.int ((k + i : Nat) : Int), d]
  | [], _, _ => by simp [enumD]
  | d :: ds, k, 0 => by simp [enumD]
  | d :: ds, k, i + 1 => by
    have := enumD_get ds (k + 1) i
    simp only [enumD, List.getElem?_cons_succ]
    rw [this, show k + 1 + i = k + (i + 1) by omega]
theorem enumD_len : ∀ (ds : List D) (k : Nat), (enumD k ds).length = ds.length
  | [], _ => rfl
  | d :: ds, k => by simp [enumD, enumD_len ds]
theorem di_enum (hK : c.cm.K = X.K) {elts : List Expr} {kk : Nat} (hg : Gl X "enumerate") (hm : X.mg "enumerate" = none) (ha : DE X c .z e f) (hs : starEach [e] X.env = [(false, eval e X.env)]) (hs' : starEach [e] X.env = (false, eval e X.env) :: starEach [] X.env) :
    DI X c (.Tuple elts kk tpos) (.Call (.Name "enumerate" p) [e] [] pos) (fEnum f) :=
  PI.imp (pi_enum hg hm (pa_cons ha pa_nil hs') hs) fun σ H Rr ⟨ρ, own, g, o⟩ => ⟨ρ, own, g, by
    unfold fEnum at o
    cases hf : f ρ with
    | no => rw [hf] at o; exact o
    | exc x => rw [hf] at o; exact o
    | ok d =>
      rw [hf] at o
      intro v H1 F s1 r1 k1
      have o' : match (match itmL d with
        | some xs => R.ok (enumD 0 xs)
        | none => .no) with
        | .ok ds => ∀ J H1, Same H H1 → ItOk c H1 own J ds → Rr J H1
        | .exc x => ∀ C dd H', c.cm.cm x = some C → Same H H' → c.W (.ref C) dd σ H'
        | .no => False := o
      have g1 := g.same s1
      have go : ∀ {a : Addr} {vs : List V} {ds : List D} {G : List Addr}, (∀ H own', Ext H1 own H own' → SqL X.K H a vs) → Rps c.cm H1 vs ds G → (∀ a ∈ G, c.B a ∧ ∀ j, a ∉ own j) → ItOk c H1 own (Ite X.K a) (enumD 0 ds) := fun {a vs ds G} hq rr hz => by
        have one : ∀ {i : Nat} {d : D}, (enumD 0 ds)[i]? = some d → ∃ d0, ds[i]? = some d0 ∧ d = .tup [.int (i : Nat), d0] := fun {i d} hd => by
          rw [enumD_get] at hd
          obtain ⟨d0, h1, h2⟩ := Option.map_eq_some_iff.mp hd
          exact ⟨d0, h1, by rw [← h2]; simp⟩
        refine ⟨fun i H own' d x _ hd => ?_, fun i H own' d y H' x _ hd hy => ?_, fun i H own' x _ hi => ⟨vs, hq _ _ x, by rw [enumD_len] at hi; rw [rr.length]; exact hi⟩⟩
        · obtain ⟨d0, h1, _⟩ := one hd
          obtain ⟨v, G', h2, _, _⟩ := rr.get h1
          exact ⟨vs, v, hq _ _ x, h2⟩
        · obtain ⟨d0, h1, rfl⟩ := one hd
          obtain ⟨T, z, rfl, hT, rfl, hz'⟩ := hy
          have sm := upd_newSame (o := .tup [.int (i : Nat), z]) hT
          obtain ⟨G', h3, h4⟩ := item_ok (a := a) g1 x rr hz h1 (hz' vs (hq _ _ x))
          exact ⟨sm, G', .tup upd_same (by simpa using Rps.cons (.int (i : Nat)) (.one (h3.same sm))), h4⟩
      cases hi : itmL d with
      | none => rw [hi] at o'; exact False.elim o'
      | some ds =>
        rw [hi] at o'
        cases r1 with
        | lst e r => cases hi; exact ⟨_, _, rfl, .of e, o' _ H1 s1 (go (fun H own' x => sq_ext g1.ownM (k1 _ List.mem_cons_self).2 x (.of e)) r fun a ha => k1 a (List.mem_cons_of_mem _ ha))⟩
        | frz e r => cases hi; rw [hK] at e; exact ⟨_, _, rfl, e.sq, o' _ H1 s1 (go (fun H own' x => (fz_ext g1.ownM x e).sq) r k1)⟩
        | _ => cases hi⟩
end
end Pd
set_option Elab.async false
set_option linter.all false
set_option maxRecDepth 100000
set_option maxHeartbeats 4000000
namespace Pd
open PySem PySem.Spec PyProof.Rows L2
/-! ### the rules in short, their small conditions found by themselves -/
def kdOf (l : List Kd) (i : Nat) : Kd := l.getD i .z
section
variable {X : Cx} {c : Cfg} {q q1 q2 q3 qa : Q} {tg e e2 e3 a b iter elt : Expr} {es ifs elts : List Expr} {st : Stmt} {sts body : List Stmt} {p p2 p3 pos pos' tpos apos cpos : Pos} {f fa fb fc fe : Env → R D} {ft : Env → R Bool} {fi fs : Env → R (List D)} {g g' : Env → SR} {h : D → Env → Option Env} {hs' : List D → Env → Option Env} {ts ts' : List Nat} {x : Str} {op op' : CmpOp} {s s' : D → D → Option Bool} {sf : List D → Option D} {id T : String}
theorem vz (i : Nat) (hk : c.kd i = .z := by rfl) (hN : X.N[i]? = some x := by rfl) (hv : Vis X.env.scope x := by first | exact Or.inl rfl | exact Or.inr (Or.inl rfl) | exact Or.inr (Or.inr rfl)) (hd : (x == ("__debug__" : Str)) = false := by decide) (hcd : (x == ("__classdict__" : Str)) = false := by decide) : DE X c .z (.Name x pos) (fVar i) :=
  de_var hN hv hd hcd (by rw [hk])
theorem vm (i : Nat) (hk : c.kd i = .m := by rfl) (hN : X.N[i]? = some x := by rfl) (hv : Vis X.env.scope x := by first | exact Or.inl rfl | exact Or.inr (Or.inl rfl) | exact Or.inr (Or.inr rfl)) (hd : (x == ("__debug__" : Str)) = false := by decide) (hcd : (x == ("__classdict__" : Str)) = false := by decide) : DE X c (.n [i]) (.Name x pos) (fVar i) :=
  de_var hN hv hd hcd (by rw [hk])
theorem vr (i : Nat) (hk : c.kd i = .r := by rfl) (hN : X.N[i]? = some x := by rfl) (hv : Vis X.env.scope x := by first | exact Or.inl rfl | exact Or.inr (Or.inl rfl) | exact Or.inr (Or.inr rfl)) (hd : (x == ("__debug__" : Str)) = false := by decide) (hcd : (x == ("__classdict__" : Str)) = false := by decide) : DE X c .b (.Name x pos) (fVar i) :=
  de_var hN hv hd hcd (by rw [hk])
theorem ac (j : Qj q1 q2 q) (ha : DE X c q1 e f) (hr : DA X c q2 es fs) (hs : starEach (e :: es) X.env = (false, eval e X.env) :: starEach es X.env := by rfl) : DA X c q (e :: es) (fCons f fs) := da_cons j ha hr hs
theorem ix (hu : X.A.units + 64 < cLine) (j : Qj q1 q2 q) (ha : DE X c q1 a fa) (hb : DE X c q2 b fb) (hs : PlainIx b := by exact fun _ _ => rfl) (hK : c.cm.K = X.K := by rfl) : DE X c q (.Subscript a b pos) (f2 ixD fa fb) := de_ix hK hu j ha hb hs
theorem tcmp (ho : CmD X c op s) (ha : DE X c q1 a fa) (hb : DE X c q2 b fb) (hm : behindInMarks op b = false := by first | exact nomark _ | rfl) : DT X c (.Compare a [op] [b] pos) (f2 s fa fb) := dt_cmp ho ha hb hm
theorem ecmp (ho : CmD X c op s) (ha : DE X c q1 a fa) (hb : DE X c q2 b fb) (hm : behindInMarks op b = false := by first | exact nomark _ | rfl) : DE X c q (.Compare a [op] [b] pos) (fB (f2 s fa fb)) := de_cmp ho ha hb hm
theorem tchain (ho : CmD X c op s) (ho' : CmD X c op' s') (ha : DE X c q1 a fa) (hb : DE X c q2 b fb) (hc : DE X c q3 e fc) (hm : lastMarks [op, op'] [b, e] = false := by with_unfolding_all rfl) : DT X c (.Compare a [op, op'] [b, e] pos) (fChain s s' fa fb fc) := dt_chain ho ho' ha hb hc hm
theorem echain (ho : CmD X c op s) (ho' : CmD X c op' s') (ha : DE X c q1 a fa) (hb : DE X c q2 b fb) (hc : DE X c q3 e fc) (hm : lastMarks [op, op'] [b, e] = false := by with_unfolding_all rfl) : DE X c q (.Compare a [op, op'] [b, e] pos) (fB (fChain s s' fa fb fc)) := de_chain ho ho' ha hb hc hm
theorem tval (h : DE X c qa e f) (he : ∀ whole, isTrue e X.env whole = (do let v ← whole; standAt e.pos; holding [v] (truthy v)) := by intro _; rfl) : DT X c e (fT f) := dt_val h he
theorem cB (hc : CallD X c (.builtin id) sf) (hg : Gl X x) (hm : X.mg x = none) (hv : bootBuiltins x = some (.builtin id)) (ha : DA X c q (e :: es) fs) (hn : x ≠ "__name__" := by decide) (hdb : (x == ("__debug__" : Str)) = false := by decide)
    (he : starEach (e :: es) X.env = (false, eval e X.env) :: starEach es X.env := by rfl) (hpl : (backTo pos (starEach es X.env)).any (·.1) = false := by rfl) : DE X c q (.Call (.Name x p) (e :: es) [] pos) (fS sf fs) := de_callB hc hg hm hv ha hn hdb he hpl
theorem cT (hc : CallD X c (.type T) sf) (hg : Gl X x) (hm : X.mg x = none) (hv : bootBuiltins x = some (.type T)) (ha : DA X c q (e :: es) fs) (hn : x ≠ "__name__" := by decide) (hdb : (x == ("__debug__" : Str)) = false := by decide)
    (he : starEach (e :: es) X.env = (false, eval e X.env) :: starEach es X.env := by rfl) (hpl : (backTo pos (starEach es X.env)).any (·.1) = false := by rfl) : DE X c q (.Call (.Name x p) (e :: es) [] pos) (fS sf fs) := de_callTy hc hg hm hv ha hn hdb he hpl
theorem cMin0 {k : Nat} (hc : X.calm = true) (hu : X.A.units + 64 < cLine) (hg : Gl X "min") (hm : X.mg "min" = none) (ha : DE X c q e f) (hs : starEach [e] X.env = (false, eval e X.env) :: starEach [] X.env := by rfl) (hK : c.cm.K = X.K := by rfl) :
    DE X c q (.Call (.Name "min" p) [e] [⟨some "default", .Constant .none k p2, p3⟩] pos) (f1 minDef f) := de_min0 hK hc hu hg hm ha hs
theorem cF {k : Nat} {fa : Addr} {fd : FuncData} {ps : List Str} {fr : Bool} {Fn : List D → R D} {ds : List Value} {dvs : List V} {dds : List D} (F : FnOk X.prog X.w X.K X.mg X.base (L2.CX X.prog X.w) k fa fd ps (spD c.cm ps.length fr Fn)) (hr : Room k X.A) (hg : Gl X x) (hm : X.mg x = some (.ref fa)) (hk : PySem.W.keepIn X.K (.ref fa) = true) (hb : Binds X.K fd ps ds) (hd : Vals dvs ds) (hdd : ∀ H, Rps c.cm H dvs dds [])
    (ln : (∀ ds' d, Fn ds' = .ok d → ds'.length = ps.length) ∧ ∀ ds' d, Fn ds' = .exc d → ds'.length = ps.length) (tk : Takes X c.W) (hq : Qc fr qa q) (ha : DA X c qa (e :: es) fs)
    (hdb : (x == ("__debug__" : Str)) = false := by decide) (he : starEach (e :: es) X.env = (false, eval e X.env) :: starEach es X.env := by rfl) (hpl : (backTo pos (starEach es X.env)).any (·.1) = false := by rfl) :
    DE X c q (.Call (.Name x p) (e :: es) [] pos) (fCall Fn dds fs) := de_call F hr hg hm hk hb hd hdd ln tk hq ha hdb he hpl
/-- an own def without defaults left open, as it stands in the table -/
structure FD (P : Program) (w : World) (K : PySem.W.Frag) (mg : Str → Option Value) (base : Heap) (cm : Md) (x : Str) (k : Nat) (ps : List Str) (fr : Bool) (np nN : Nat) (g : Env → SR) : Prop where
  ex : ∃ (fa : Addr) (fd : FuncData), mg x = some (.ref fa) ∧ PySem.W.keepIn K (.ref fa) = true ∧ Binds K fd ps [] ∧ ps.length = np ∧ FnOk P w K mg base (L2.CX P w) k fa fd ps (spD cm ps.length fr (callD np nN g))
theorem cFD {k k' : Nat} {ps : List Str} {fr : Bool} {np nN : Nat} (F : FD X.prog X.w X.K X.mg X.base c.cm x k ps fr np nN g) (hr : Room k' X.A) (hkk : k ≤ k') (tk : Takes X c.W) (hq : Qc fr qa q) (hg : Gl X x) (ha : DA X c qa (e :: es) fs)
    (hdb : (x == ("__debug__" : Str)) = false := by decide) (he : starEach (e :: es) X.env = (false, eval e X.env) :: starEach es X.env := by rfl) (hpl : (backTo pos (starEach es X.env)).any (·.1) = false := by rfl) :
    DE X c q (.Call (.Name x p) (e :: es) [] pos) (fCall (callD np nN g) [] fs) := by
  obtain ⟨fa, fd, h1, h2, h3, h4, h5⟩ := F.ex
  subst h4
  exact de_call h5 (hr.mono hkk) hg h1 h2 h3 .nil (fun _ => .nil) ln_callD tk hq ha hdb he hpl
theorem gname (i : Nat) (hN : X.N.Nodup) (hk : c.kd i = .z := by rfl) (hi : X.N[i]? = some x := by rfl) (hx : Loc X.env.scope x := by first | exact Or.inl rfl | exact Or.inr rfl) (hf : X.fn x = true ∨ X.env.scope.names.lookup x = some .local := by first | exact Or.inl rfl | exact Or.inr rfl) : DG X c (.Name x pos) (tgName i) [i] := dg_name hk hN hi hx hf
theorem gcons (h1 : DG X c e h ts) (h2 : DGs X c es hs' ts') (hq : (assignEach (e :: es) X.env).map (·.2) = assign e X.env :: (assignEach es X.env).map (·.2) := by rfl) : DGs X c (e :: es) (tgCons h hs') (ts ++ ts') := dgs_cons h1 h2 hq
theorem gtup {k : Nat} (n : Nat) (hc : X.calm = true) (h1 : DGs X c es hs' ts) (hn : (assignEach es X.env).length = n := by rfl) (hst : (assignEach es X.env).findIdx? (·.1) = none := by rfl) : DG X c (.Tuple es k pos) (tgTup n hs') ts := dg_tup hc h1 hn hst
theorem iseq (ha : DE X c .z e f) (hK : c.cm.K = X.K := by rfl) : DI X c tg e (fItm f) := di_seq hK ha
theorem esl {lo hi : Option Expr} {p2 : Pos} {fl fh : Env → R (Option Int)} (ha : DE X c q a fa) (hl : DO X c lo fl) (hh : DO X c hi fh) (hK : c.cm.K = X.K := by rfl) : DE X c q (.Subscript a (.Slice lo hi none p2) pos) (fSl fa fl fh) := de_slice hK ha hl hh
theorem erev {k : Nat} {p1 p2 p3 : Pos} (ha : DE X c q a fa) (hK : c.cm.K = X.K := by rfl) : DE X c q (.Subscript a (.Slice none none (some (.UnaryOp .USub (.Constant (.int 1) k p1) p2)) p3) pos) (f1 revD fa) := de_rev hK ha
theorem irange (hg : Gl X "range") (hm : X.mg "range" = none) (ha : DE X c qa e f) (hs : starEach [e] X.env = [(false, eval e X.env)] := by rfl) (hs' : starEach [e] X.env = (false, eval e X.env) :: starEach [] X.env := by rfl) : DI X c tg (.Call (.Name "range" p) [e] [] pos) (fRange f) := di_range hg hm ha hs hs'
theorem ienum {kk : Nat} (hg : Gl X "enumerate") (hm : X.mg "enumerate" = none) (ha : DE X c .z e f) (hs : starEach [e] X.env = [(false, eval e X.env)] := by rfl) (hs' : starEach [e] X.env = (false, eval e X.env) :: starEach [] X.env := by rfl) (hK : c.cm.K = X.K := by rfl) :
    DI X c (.Tuple elts kk tpos) (.Call (.Name "enumerate" p) [e] [] pos) (fEnum f) := di_enum hK hg hm ha hs hs'
theorem elc {scope : Scope} (own : List (Str × Nat)) (hc : X.calm = true) (hN : X.N.Nodup) (hqz : Qz q) (hi : DI X c tg iter fi)
    (hg : ∀ (s : Shared) (H : Hp) (C : Addr) (cl : List (Str × Addr)) (fp : List Addr), DG (X.blk s H scope (compEnvC scope cl C X.env) fp) c.nox tg h ts)
    (ht : ∀ (s : Shared) (H : Hp) (C : Addr) (cl : List (Str × Addr)) (fp : List Addr), DTs (X.blk s H scope (compEnvC scope cl C X.env) fp) c.nox ifs ft)
    (he : ∀ (s : Shared) (H : Hp) (C : Addr) (cl : List (Str × Addr)) (fp : List Addr), DE (X.blk s H scope (compEnvC scope cl C X.env) fp) c.nox q elt fe)
    (ok : BlkOk X.N X.env.scope scope own := by exact blkOk_by (by decide +kernel)) (hs : ∀ x, foldedSetIterable iter X.env x = pure x := by intro _; rfl) (hts : ∀ t ∈ ts, t ∈ own.map (·.2) := by decide) :
    DE X c q (.ListComp elt [⟨tg, iter, ifs, 0⟩] scope pos) (fLc fi h ft fe (own.map (·.2))) := de_lc hc hN hqz hi ok hg ht he hs hts
theorem setz (i : Nat) (hN : X.N.Nodup) (he : DE X c .z e f) (hk : c.kd i = .z := by rfl) (hi : X.N[i]? = some x := by rfl) (hx : Loc X.env.scope x := by first | exact Or.inl rfl | exact Or.inr rfl) (hs : swapsWith e (some (.Name x pos')) pos.line X.env = pure false := by rfl) (hf : X.fn x = true ∨ X.env.scope.names.lookup x = some .local := by first | exact Or.inl rfl | exact Or.inr rfl) :
    DS X c (.Assign [.Name x pos'] e pos) (sSet i f) := ds_setz hk hN hi hx he hs hf
theorem setm (i : Nat) (hN : X.N.Nodup) (he : DE X c (.n []) e f) (hk : c.kd i = .m := by rfl) (hi : X.N[i]? = some x := by rfl) (hx : Loc X.env.scope x := by first | exact Or.inl rfl | exact Or.inr rfl) (hs : swapsWith e (some (.Name x pos')) pos.line X.env = pure false := by rfl) (hf : X.fn x = true ∨ X.env.scope.names.lookup x = some .local := by first | exact Or.inl rfl | exact Or.inr rfl) :
    DS X c (.Assign [.Name x pos'] e pos) (sSet i f) := ds_setm hk hN hi hx he hs hf
theorem setr (i : Nat) (hN : X.N.Nodup) (he : DE X c (.n []) e f) (hk : c.kd i = .r := by rfl) (hi : X.N[i]? = some x := by rfl) (hx : Loc X.env.scope x := by first | exact Or.inl rfl | exact Or.inr rfl) (hs : swapsWith e (some (.Name x pos')) pos.line X.env = pure false := by rfl) (hf : X.fn x = true ∨ X.env.scope.names.lookup x = some .local := by first | exact Or.inl rfl | exact Or.inr rfl) :
    DS X c (.Assign [.Name x pos'] e pos) (sSetR i f) := ds_setr hk hN hi hx he hs hf
/-- a comprehension given to a name, on one line -/
theorem setzLc {scope : Scope} (i : Nat) (own : List (Str × Nat)) (hc : X.calm = true) (hN : X.N.Nodup) (hqz : Qz q) (hi : DI X c tg iter fi)
    (hg : ∀ (s : Shared) (H : Hp) (C : Addr) (cl : List (Str × Addr)) (fp : List Addr), DG (X.blk s H scope (compEnvC scope cl C X.env) fp) c.nox tg h ts)
    (ht : ∀ (s : Shared) (H : Hp) (C : Addr) (cl : List (Str × Addr)) (fp : List Addr), DTs (X.blk s H scope (compEnvC scope cl C X.env) fp) c.nox ifs ft)
    (he : ∀ (s : Shared) (H : Hp) (C : Addr) (cl : List (Str × Addr)) (fp : List Addr), DE (X.blk s H scope (compEnvC scope cl C X.env) fp) c.nox .z elt fe)
    (hk : c.kd i = .z := by rfl) (hy : X.N[i]? = some x := by rfl) (hyl : X.env.scope.names.lookup x = some .local := by rfl) (hsw : swapsWith (.ListComp elt [⟨tg, iter, ifs, 0⟩] scope pos) (some (.Name x pos')) p.line X.env = pure true := by exact sw_true rfl rfl rfl (by decide +kernel))
    (ok : BlkOk X.N X.env.scope scope own := by exact blkOk_by (by decide +kernel)) (hs : ∀ x, foldedSetIterable iter X.env x = pure x := by intro _; rfl) (hts : ∀ t ∈ ts, t ∈ own.map (·.2) := by decide) :
    DS X c (.Assign [.Name x pos'] (.ListComp elt [⟨tg, iter, ifs, 0⟩] scope pos) p) (sSet i (fLc fi h ft fe (own.map (·.2)))) :=
  PS.imp (ps_setLc hc hN hy hyl hsw hi ok hg ht he hs) fun D σ H z => lc_core' .z hts (setz_core hk z)
theorem setnLc {scope : Scope} (i : Nat) (own : List (Str × Nat)) (hc : X.calm = true) (hN : X.N.Nodup) (hqz : Qz q) (hi : DI X c tg iter fi)
    (hg : ∀ (s : Shared) (H : Hp) (C : Addr) (cl : List (Str × Addr)) (fp : List Addr), DG (X.blk s H scope (compEnvC scope cl C X.env) fp) c.nox tg h ts)
    (ht : ∀ (s : Shared) (H : Hp) (C : Addr) (cl : List (Str × Addr)) (fp : List Addr), DTs (X.blk s H scope (compEnvC scope cl C X.env) fp) c.nox ifs ft)
    (he : ∀ (s : Shared) (H : Hp) (C : Addr) (cl : List (Str × Addr)) (fp : List Addr), DE (X.blk s H scope (compEnvC scope cl C X.env) fp) c.nox (.n []) elt fe)
    (hk : c.kd i = .r := by rfl) (hy : X.N[i]? = some x := by rfl) (hyl : X.env.scope.names.lookup x = some .local := by rfl) (hsw : swapsWith (.ListComp elt [⟨tg, iter, ifs, 0⟩] scope pos) (some (.Name x pos')) p.line X.env = pure true := by exact sw_true rfl rfl rfl (by decide +kernel))
    (ok : BlkOk X.N X.env.scope scope own := by exact blkOk_by (by decide +kernel)) (hs : ∀ x, foldedSetIterable iter X.env x = pure x := by intro _; rfl) (hts : ∀ t ∈ ts, t ∈ own.map (·.2) := by decide) :
    DS X c (.Assign [.Name x pos'] (.ListComp elt [⟨tg, iter, ifs, 0⟩] scope pos) p) (sSetR i (fLc fi h ft fe (own.map (·.2)))) :=
  PS.imp (ps_setLc hc hN hy hyl hsw hi ok hg ht he hs) fun D σ H z => lc_core' .n hts (setr_core hk z)
theorem asg (he : DE X c .z e f) (hg : DG X c tg h ts) (hs : swapsWithSole [tg] e pos.line X.env = pure false := by rfl) (hw : swappedStores [tg] e X.env = pure none := by rfl) (h1 : (assignEach [tg] X.env).map (·.2) = [assign tg X.env] := by rfl) : DS X c (.Assign [tg] e pos) (sAsg f h) := ds_asg he hg hs hw h1
theorem exps (he : DE X c q e f) (hs : swapsWith e none pos.line X.env = pure false := by rfl) : DS X c (.Expr e pos) (sExp f) := ds_exp he hs
theorem fors (hp : PassesOwn (model X.prog X.w) X.A X.env X.xe) (hc : X.calm = true) (hi : DI X c tg iter fi) (hg : DG X c tg h ts) (hb : DSs X c body g) (hs : ∀ x, foldedSetIterable iter X.env x = pure x := by intro _; rfl) : DS X c (.For tg iter body [] pos) (sFor fi h g) := ds_for hp hc hi hg hb hs
theorem apps (i : Nat) (he : DE X c .z e f) (hk : c.kd i = .r := by rfl) (hN : X.N[i]? = some x := by rfl) (hv : Vis X.env.scope x := by first | exact Or.inl rfl | exact Or.inr (Or.inl rfl) | exact Or.inr (Or.inr rfl)) (hd : (x == ("__debug__" : Str)) = false := by decide) (hcd : (x == ("__classdict__" : Str)) = false := by decide)
    (hb : attributeBase (.Name x p) "append" X.env (eval (.Name x p) X.env) = eval (.Name x p) X.env := by rfl)
    (hfew : ((backTo cpos (starEach [e] X.env)).all (fun x => !x.1) && (backToKw cpos (keywordEach [] X.env)).all (fun x => x.1.isSome) && decide ([e].length + ([] : List Keyword).length + (if ([] : List Keyword).isEmpty then 0 else 1) < 30)) = true := by rfl)
    (hline : (apos.endLine == cpos.line) = true := by rfl) (hst : starEach [e] X.env = (false, eval e X.env) :: starEach [] X.env := by rfl) (hpl : (backTo cpos (starEach [] X.env)).any (·.1) = false := by rfl)
    (hs : swapsWith (.Call (.Attribute (.Name x p) "append" apos) [e] [] cpos) none pos.line X.env = pure false := by rfl) :
    DS X c (.Expr (.Call (.Attribute (.Name x p) "append" apos) [e] [] cpos) pos) (sApp i f) := ds_append hk hN hv hd hcd he hb hfew hline hst hpl hs
theorem rets (he : DE X c q e f) (hq : RtQ c q) : DS X c (.Return (some e) pos) (sRet f) := ds_ret hq he
end
theorem rtq {c : Cfg} {q : Q} (h : c.fr = false := by rfl) : RtQ c q := fun z => by rw [h] at z; cases z
theorem rtn {c : Cfg} {S : List Nat} (h : ∀ a, ¬ c.io a) : RtQ c (.n S) := fun _ => ⟨S, rfl, h⟩
end Pd
set_option Elab.async false
set_option linter.all false
set_option maxRecDepth 100000
set_option maxHeartbeats 4000000
namespace Pd
open PySem PySem.Spec PyProof.Rows L2
/-! ### isinstance(x, a built-in class) -/
def tyN : D → Option String
  | .non => some "NoneType"
  | .bl _ => some "bool"
  | .int _ => some "int"
  | .str _ => some "str"
  | .lst _ => some "list"
  | .fz _ => some "list"
  | .tup _ => some "tuple"
  | .dK _ _ => some "dict"
  | .dT _ _ => some "dict"
  | .ins _ _ _ => none
  | .exc _ => none
def isTup : D → Bool
  | .tup _ => true
  | _ => false
def isLst : D → Bool
  | .lst _ => true
  | .fz _ => true
  | _ => false
def isInt : D → Bool
  | .int _ => true
  | .bl _ => true
  | _ => false
def isBol : D → Bool
  | .bl _ => true
  | _ => false
def isStr : D → Bool
  | .str _ => true
  | _ => false
def isDct : D → Bool
  | .dK _ _ => true
  | .dT _ _ => true
  | _ => false
def isiD (t : D → Bool) (d : D) : Option D := match tyN d with
  | some _ => some (.bl (t d))
  | none => none
def TyRule (T : String) (t : D → Bool) : Prop := ∀ d n, tyN d = some n → kitB n T = some (t d)
theorem ty_tup : TyRule "tuple" isTup := fun d n h => by cases d <;> cases h <;> (simp only [isTup]; decide +kernel)
theorem ty_lst : TyRule "list" isLst := fun d n h => by cases d <;> cases h <;> (simp only [isLst]; decide +kernel)
theorem ty_int : TyRule "int" isInt := fun d n h => by cases d <;> cases h <;> (simp only [isInt]; decide +kernel)
theorem ty_bol : TyRule "bool" isBol := fun d n h => by cases d <;> cases h <;> (simp only [isBol]; decide +kernel)
theorem ty_str : TyRule "str" isStr := fun d n h => by cases d <;> cases h <;> (simp only [isStr]; decide +kernel)
theorem ty_dct : TyRule "dict" isDct := fun d n h => by cases d <;> cases h <;> (simp only [isDct]; decide +kernel)
theorem Rp.tyX {cm : Md} {H : Hp} {v : V} {d : D} {F : List Addr} {n : String} (r : Rp cm H v d F) (h : tyN d = some n) : TyX cm.K H v (.type n) := by
  cases r with
  | non => cases h; exact .base .non
  | bl b => cases h; exact .base (.bl b)
  | int i => cases h; exact .base (.int i)
  | str x => cases h; exact .base (.str x)
  | tup e r => cases h; exact .base (.tup e)
  | lst e r => cases h; exact .base (.lst e)
  | @frz a vs ds F e r =>
    cases h
    rcases e with ⟨o, e⟩ | e
    · exact .base (.frz e)
    · rcases e fun _ => none with (z | ⟨_, z⟩) | ⟨o, _, _, z, k, _⟩
      · cases z
      · cases z
      · exact .kList z k
  | dK e _ r => cases h; exact .base (.dK e)
  | dT e _ r => cases h; exact .base (.dT e)
  | ins e _ _ r => cases h
section
variable {X : Cx} {c : Cfg} {q qa : Q} {e : Expr} {p p2 pos : Pos} {f : Env → R D} {T : String} {x : Str} {t : D → Bool}
theorem de_isi (hK : c.cm.K = X.K) (hT : TyRule T t) (hg : Gl X "isinstance") (hm : X.mg "isinstance" = none) (hgT : Gl X x) (hmT : X.mg x = none) (hvT : bootBuiltins x = some (.type T)) (ha : DE X c qa e f) (hn : x ≠ "__name__") (hd : (x == ("__debug__" : Str)) = false)
    (hs : starEach [e, .Name x p2] X.env = (false, eval e X.env) :: starEach [.Name x p2] X.env) (hs2 : starEach [.Name x p2] X.env = (false, eval (.Name x p2) X.env) :: starEach [] X.env) (hpl : (backTo pos (starEach [.Name x p2] X.env)).any (·.1) = false) :
    DE X c q (.Call (.Name "isinstance" p) [e, .Name x p2] [] pos) (f1 (isiD t) f) :=
  PE.imp (pe_callB call_isi hg hm (by decide +kernel) (pa_cons ha (pa_cons (pe_bltn (v := .ty T) hgT hmT hvT rfl hn hd) pa_nil hs2) hs) (by decide) (by decide) hs hpl) fun σ H P ⟨ρ, own, g, o⟩ => ⟨ρ, own, g, outR.bind o fun d v H1 F hd s1 r1 k1 o1 => by
    revert o1
    unfold isiD
    cases hn : tyN d with
    | none => exact fun o1 => False.elim o1
    | some n => exact fun o1 => ⟨_, _, _, _, t d, rfl, .ty T, by rw [← hK]; exact r1.tyX hn, kit_ty (hT d n hn), o1 _ H1 [] s1 (.bl _) .nil⟩⟩
theorem isi (hT : TyRule T t) (hg : Gl X "isinstance") (hm : X.mg "isinstance" = none) (hgT : Gl X x) (hmT : X.mg x = none) (hvT : bootBuiltins x = some (.type T)) (ha : DE X c qa e f) (hn : x ≠ "__name__" := by decide) (hd : (x == ("__debug__" : Str)) = false := by decide)
    (hs : starEach [e, .Name x p2] X.env = (false, eval e X.env) :: starEach [.Name x p2] X.env := by rfl) (hs2 : starEach [.Name x p2] X.env = (false, eval (.Name x p2) X.env) :: starEach [] X.env := by rfl) (hpl : (backTo pos (starEach [.Name x p2] X.env)).any (·.1) = false := by rfl) (hK : c.cm.K = X.K := by rfl) :
    DE X c q (.Call (.Name "isinstance" p) [e, .Name x p2] [] pos) (f1 (isiD t) f) := de_isi hK hT hg hm hgT hmT hvT ha hn hd hs hs2 hpl
end
end Pd
set_option Elab.async false
set_option linter.all false
set_option maxRecDepth 100000
set_option maxHeartbeats 4000000
namespace Pd
open PySem PySem.Spec PyProof.Rows L2
/-! ### the built-in names that nobody has bound anew -/
structure Bi (mg : Str → Option Value) : Prop where
  len : mg "len" = none
  list : mg "list" = none
  sum : mg "sum" = none
  all : mg "all" = none
  any : mg "any" = none
  max : mg "max" = none
  min : mg "min" = none
  range : mg "range" = none
  enumerate : mg "enumerate" = none
  zip : mg "zip" = none
  reversed : mg "reversed" = none
  isinstance : mg "isinstance" = none
  int : mg "int" = none
  bool : mg "bool" = none
  tuple : mg "tuple" = none
  str : mg "str" = none
  dict : mg "dict" = none
  set : mg "set" = none
  sorted : mg "sorted" = none
  ValueError : mg "ValueError" = none
theorem bb_len : bootBuiltins "len" = some (.builtin "len") := by decide +kernel
theorem bb_list : bootBuiltins "list" = some (.type "list") := by decide +kernel
theorem bb_sum : bootBuiltins "sum" = some (.builtin "sum") := by decide +kernel
theorem bb_all : bootBuiltins "all" = some (.builtin "all") := by decide +kernel
theorem bb_any : bootBuiltins "any" = some (.builtin "any") := by decide +kernel
theorem bb_max : bootBuiltins "max" = some (.builtin "max") := by decide +kernel
theorem bb_min : bootBuiltins "min" = some (.builtin "min") := by decide +kernel
theorem bb_int : bootBuiltins "int" = some (.type "int") := by decide +kernel
theorem bb_bool : bootBuiltins "bool" = some (.type "bool") := by decide +kernel
theorem bb_tuple : bootBuiltins "tuple" = some (.type "tuple") := by decide +kernel
theorem bb_str : bootBuiltins "str" = some (.type "str") := by decide +kernel
theorem bb_dict : bootBuiltins "dict" = some (.type "dict") := by decide +kernel
theorem bb_set : bootBuiltins "set" = some (.type "set") := by decide +kernel
theorem bb_sorted : bootBuiltins "sorted" = some (.builtin "sorted") := by decide +kernel
/-- own classes stand where the module's names say -/
abbrev cmOf (K : PySem.W.Frag) (mg : Str → Option Value) : Md := ⟨K, fun c => match mg c with
  | some (.ref a) => some a
  | _ => none⟩
theorem takes_nox {X : Cx} : Takes X fun _ _ _ _ => False := fun _ _ ⟨_, _, _, _, _, _, _, _, _, _, _, _, _, _, _, _, h⟩ => h.elim
/-! ### new lists of things that nobody can write -/
def chkL (d : D) : R D := match d with
  | .lst xs => if immAll xs = true then .ok (.lst xs) else .no
  | _ => .no
def fFr (f : Env → R D) : Env → R D := fun ρ => (f ρ).bind chkL
section
variable {X : Cx} {c : Cfg} {q q1 q2 qa : Q} {a b e : Expr} {es : List Expr} {p pos : Pos} {f fa fb : Env → R D} {fs : Env → R (List D)} {x : Str}
theorem fr_out {σ : L2.St} {H : Hp} {own : Ow} {xs : List D} {P : VK} (o : outR c q σ H own (Rp c.cm) (chkL (.lst xs)) P) : immAll xs = true ∧ outR c q σ H own (Rp c.cm) (R.ok (.lst xs)) P := by
  have o' : outR c q σ H own (Rp c.cm) (if immAll xs = true then R.ok (.lst xs) else .no) P := o
  by_cases h : immAll xs = true
  · rw [if_pos h] at o'; exact ⟨h, o'⟩
  · rw [if_neg h] at o'; exact False.elim o'
theorem fr_end {σ : L2.St} {H H2 : Hp} {own : Ow} {ρ : Env} {xs : List D} {vs : List V} {G : List Addr} {P : VK} {pp : Addr} (g : Gd c σ H ρ own) (s : Same H H2) (hp : H2 pp = none) (rr : Rps c.cm H2 vs xs G) (hi : immAll xs = true) (o : outR c (.n []) σ H own (Rp c.cm) (R.ok (.lst xs)) P) : P (.ref pp) (upd H2 pp (.lst vs)) := by
  have sm := upd_newSame (o := .lst vs) hp
  have hG := rr.imm hi
  subst hG
  exact o _ _ [pp] (s.trans sm) (.lst upd_same (rr.same sm)) ⟨List.nodup_cons.mpr ⟨(fun z => nomatch z), List.nodup_nil⟩, fun z hz => by
    rw [List.mem_singleton] at hz
    subst hz
    exact .inl (s.free hp)⟩
theorem bind_assoc3 {α β γ δ : Type} (r : R α) (s : R β) (k : α → β → R γ) (l : γ → R δ) : ((r.bind fun d => s.bind fun e => k d e).bind l) = r.bind fun d => s.bind fun e => (k d e).bind l := by
  cases r with
  | no => rfl
  | exc y => rfl
  | ok d => cases s with
    | no => rfl
    | exc y => rfl
    | ok e => rfl
theorem bind_assoc2 {α β γ : Type} (r : R α) (k : α → R β) (l : β → R γ) : (r.bind k).bind l = r.bind fun d => (k d).bind l := by
  cases r <;> rfl
theorem de_catN (ha : DE X c q1 a fa) (hb : DE X c q2 b fb) : DE X c (.n []) (.BinOp a .Add b pos) (fFr (f2 addD fa fb)) :=
  PE.imp (pe_op op_cat ha hb) fun σ H P ⟨ρ, own, g, o⟩ => ⟨ρ, own, g, by
    unfold fFr f2 at o
    rw [bind_assoc3] at o
    exact outR.bind o fun d v H1 F hd s1 r1 k1 o1 => ⟨ρ, own, g.same s1, outR.bind (o1.later s1) fun e u H2 G he s2 r2 k2 o2 => by
      rw [he] at o1
      have o3 : outR c (.n []) σ H own (Rp c.cm) ((ofO (addD d e)).bind chkL) P := o1
      have r1' := r1.same s2
      unfold addD at o3
      split at o3
      · exact False.elim o3
      · split at o3 <;> exact False.elim o3
      · obtain ⟨a1, vs, F', rfl, ha, rfl, ra⟩ := r1'.listed
        obtain ⟨b1, ws, G', rfl, hb, rfl, rb⟩ := r2.listed
        split at o3
        · rename_i hl
          obtain ⟨hi, o4⟩ := fr_out o3
          rw [← ra.length, ← rb.length] at hl
          exact ⟨_, _, _, _, rfl, rfl, ha, hb, Nat.le_trans hl SZ_le, fun pp hp => fr_end g (s1.trans s2) hp (ra.append rb) hi o4⟩
        · exact False.elim o3
      · exact False.elim o3⟩⟩
theorem erevN {k : Nat} {p1 p2 p3 : Pos} (ha : DE X c q1 a fa) (hK : c.cm.K = X.K := by rfl) : DE X c (.n []) (.Subscript a (.Slice none none (some (.UnaryOp .USub (.Constant (.int 1) k p1) p2)) p3) pos) (fFr (f1 revD fa)) :=
  PE.imp (pe_revL ha) fun σ H P ⟨ρ, own, g, o⟩ => ⟨ρ, own, g, by
    unfold fFr f1 at o
    rw [bind_assoc2] at o
    exact outR.bind o fun d v H1 F hd s1 r1 k1 o1 => by
      revert o1
      unfold revD
      cases hi : itm d with
      | none => exact fun o1 => False.elim o1
      | some xs =>
        cases r1 with
        | tup e rr => exact fun o1 => False.elim o1
        | @lst a' vs' ds' F' e rr =>
          cases hi
          obtain ⟨G, h1, h2⟩ := rr.rev
          intro o1
          obtain ⟨hi, o4⟩ := fr_out o1
          exact ⟨_, _, rfl, .of e, fun pp hp => fr_end g s1 hp h1 hi o4⟩
        | @frz a' vs' ds' F' e rr =>
          cases hi
          obtain ⟨G, h1, h2⟩ := rr.rev
          intro o1
          obtain ⟨hi, o4⟩ := fr_out o1
          exact ⟨_, _, rfl, by rw [← hK]; exact e.sq, fun pp hp => fr_end g s1 hp h1 hi o4⟩
        | _ => cases hi⟩
theorem cListN (hg : Gl X "list") (hm : X.mg "list" = none) (ha : DA X c q (e :: es) fs) (he : starEach (e :: es) X.env = (false, eval e X.env) :: starEach es X.env := by rfl) (hpl : (backTo pos (starEach es X.env)).any (·.1) = false := by rfl) (hK : c.cm.K = X.K := by rfl) :
    DE X c (.n []) (.Call (.Name "list" p) (e :: es) [] pos) (fFr (fS listS fs)) :=
  PE.imp (pe_callTy call_list_of hg hm bb_list ha (by decide) (by decide) he hpl) fun σ H P ⟨ρ, own, g, o⟩ => ⟨ρ, own, g, by
    unfold fFr fS at o
    rw [bind_assoc2] at o
    exact outR.bind o fun ds vs H1 F hd s1 r1 k1 o1 => by
      revert o1
      unfold listS
      split
      · rename_i d
        obtain ⟨v, rfl, r2⟩ := r1.one_inv
        cases hi : itm d with
        | none => exact fun o1 => False.elim o1
        | some ys =>
          intro o1
          obtain ⟨hi2, o4⟩ := fr_out o1
          obtain ⟨a, vs, G, rfl, hq, sl, rr⟩ := r2.seq hi
          rw [hK] at hq
          exact ⟨a, vs, rfl, hq, fun pp hp => fr_end g s1 hp rr hi2 o4⟩
      · exact fun o1 => False.elim o1⟩
theorem bind_assoc4 {α β γ δ ε : Type} (r : R α) (s : R β) (t : R γ) (k : α → β → γ → R δ) (l : δ → R ε) : ((r.bind fun d => s.bind fun e => t.bind fun f => k d e f).bind l) = r.bind fun d => s.bind fun e => t.bind fun f => (k d e f).bind l := by
  cases r with
  | no => rfl
  | exc y => rfl
  | ok d => cases s with
    | no => rfl
    | exc y => rfl
    | ok e => cases t <;> rfl
theorem eslN {lo hi : Option Expr} {p2 : Pos} {fl fh : Env → R (Option Int)} (ha : DE X c q1 a fa) (hl : DO X c lo fl) (hh : DO X c hi fh) (hK : c.cm.K = X.K := by rfl) : DE X c (.n []) (.Subscript a (.Slice lo hi none p2) pos) (fFr (fSl fa fl fh)) :=
  PE.imp (pe_slice sl_list ha hl hh) fun σ H P ⟨ρ, own, g, o⟩ => ⟨ρ, own, g, by
    unfold fFr fSl at o
    rw [bind_assoc4] at o
    exact outR.bind o fun d v H1 F hd s1 r1 k1 o1 => ⟨ρ, own, g.same s1, outR.bind (o1.later s1) fun l l' H2 G hl' s2 r2 k2 o2 =>
    ⟨ρ, own, (g.same s1).same s2, outR.bind (o2.later s2) fun h h' H3 G3 hh' s3 r3 k3 o3 => by
      rw [hl'] at o1
      have o1 : outR c (.n []) σ H own (Rp c.cm) ((fh ρ).bind fun h => (ofO (slD d l h)).bind chkL) P := o1
      rw [hh'] at o1
      have o1 : outR c (.n []) σ H own (Rp c.cm) ((ofO (slD d l h)).bind chkL) P := o1
      have s13 := (s1.trans s2).trans s3
      obtain ⟨e1, _⟩ := r2
      obtain ⟨e2, _⟩ := r3
      subst e1 e2
      have r1' := (r1.same s2).same s3
      unfold slD at o1
      cases r1' with
      | @lst a' vs' ds' F' e rr =>
        obtain ⟨G, h1, h2⟩ := rr.cut l' h'
        obtain ⟨hi2, o4⟩ := fr_out o1
        exact ⟨_, _, rfl, .of e, fun pp hp => fr_end g s13 hp h1 hi2 o4⟩
      | @frz a' vs' ds' F' e rr =>
        obtain ⟨G, h1, h2⟩ := rr.cut l' h'
        obtain ⟨hi2, o4⟩ := fr_out o1
        exact ⟨_, _, rfl, by rw [← hK]; exact e.sq, fun pp hp => fr_end g s13 hp h1 hi2 o4⟩
      | tup e rr => 
        have o1 : outR c (.n []) σ H own (Rp c.cm) ((ofO (if _ then none else some _)).bind chkL) P := o1
        split at o1 <;> exact False.elim o1
      | _ => exact False.elim o1⟩⟩⟩
/-! ### an owned list of such things, told as a new one -/
def fVarRI (i : Nat) : Env → R D := fun ρ => match ρ[i]? with
  | some (some (.lst xs)) => if immAll xs = true then .ok (.lst xs) else .no
  | _ => .no
theorem vri (i : Nat) (hk : c.kd i = .r := by rfl) (hN : X.N[i]? = some x := by rfl) (hv : Vis X.env.scope x := by first | exact Or.inl rfl | exact Or.inr (Or.inl rfl) | exact Or.inr (Or.inr rfl)) (hd : (x == ("__debug__" : Str)) = false := by decide) (hcd : (x == ("__classdict__" : Str)) = false := by decide) :
    DE X c (.n [i]) (.Name x pos) (fVarRI i) := PE.imp (pe_var hN hv hd hcd) fun σ H Q ⟨ρ, own, g, o⟩ => by
  unfold fVarRI at o
  cases h : ρ[i]? with
  | none => rw [h] at o; exact False.elim o
  | some d =>
    cases d with
    | none => rw [h] at o; exact False.elim o
    | some d =>
      rw [h] at o
      cases d with
      | lst xs =>
        have o : outR c (.n [i]) σ H own (Rp c.cm) (if immAll xs = true then R.ok (.lst xs) else .no) Q := o
        by_cases hi : immAll xs = true
        · rw [if_pos hi] at o
          obtain ⟨v, F, h1, h2, h3⟩ := g.slot i _ h
          refine ⟨v, h1, o v H F (Same.refl H) h2 ?_⟩
          unfold SOk at h3
          rw [hk] at h3
          obtain ⟨a, F', rfl, rfl, h4, h5⟩ := h3
          have hF : F' = [] := by
            obtain ⟨a2, vs, G, e1, _, e3, rr⟩ := h2.listed
            have := rr.imm hi
            subst this
            exact (List.cons.inj e3).2
          subst hF
          exact ⟨List.nodup_cons.mpr ⟨(fun z => nomatch z), List.nodup_nil⟩, fun b hb => .inr ⟨i, List.mem_singleton.mpr rfl, by rw [h4]; exact hb⟩⟩
        · rw [if_neg hi] at o
          exact False.elim o
      | _ => exact False.elim o
end
end Pd
namespace Pd
open PySem PySem.Spec PyProof.Rows L2
/-! ### the end of a law -/
theorem fz_of {K : PySem.W.Frag} {H : Hp} {a : Addr} {vs : List V} (hO : Only H) (h : SqL K H a vs) : FzL K H a vs := by
  rcases h with (h | ⟨o, h⟩) | h
  · rcases hO a with e | ⟨o, xs, e⟩ <;> rw [h] at e <;> cases e
  · exact .inl ⟨o, h⟩
  · exact .inr fun H' => .inr h
def Bits (ns : List Int) : Prop := ∀ z ∈ ns, Builtin.Int.intBits z ≤ 1048576
def spLaw (K : PySem.W.Frag) : Sp := fun vs H Q _ => ∃ (a : Addr) (ns : List Int), vs = [.ref a] ∧ ns.length ≤ 63 ∧ Bits ns ∧ FzL K H a (ns.map V.int) ∧ ∀ H', Q (.bl true) H'
theorem law_ok {P : Program} {w : World} {K : PySem.W.Frag} {mg : Str → Option Value} {base : Heap} {fa : Addr} {fd : FuncData} {x : Str} {k : Nat} {fr : Bool} {cm : Md} {Fn : List D → R D} (hK : cm.K = K)
    (F : FnOk P w K mg base (L2.CX P w) k fa fd [x] (spD cm 1 fr Fn)) (h : ∀ ns : List Int, ns.length ≤ 63 → Bits ns → Fn [.fz (ns.map D.int)] = .ok (.bl true)) : FnOk P w K mg base CX0 k fa fd [x] (spLaw K) :=
  fn_law F fun vs H Q E ⟨a, ns, e, hl, hb, hz, hq⟩ => by
    subst e
    refine ⟨rfl, [.fz (ns.map D.int)], [], ?_, ?_⟩
    · have : Rps cm H [.ref a] [.fz (ns.map D.int)] ([] ++ []) := .cons (.frz (by rw [hK]; exact hz) (rps_ints ns)) .nil
      exact this
    · rw [h ns hl hb]
      intro v H' G s r _
      cases r
      exact hq H'
/-- a law: F gives the written part, the function object, the promise over every base -/
theorem walk_ofEB {l : PySem.W.OpenLaw} {n k : Nat} {q : Program} {loose : List Str} {XP : (Str → Option Value) → Heap → Prop} {YP : World → Heap → Prop} {d : DefRec} {x : Str}
    (hn : l.most = some n) (hn2 : n ≤ sizeLine) (h63 : n ≤ 63) (hdf : d.params.defaults = []) (hr : Room k callerA)
    (F : ∀ (w : World) (mg : Str → Option Value) (fa : Addr) (h : Heap), YP w h → h.Ns mainGlobals mg → mg d.name = some (.ref fa) →
      ∃ (K : PySem.W.Frag) (fd : FuncData), K.In h ∧ (∀ (s : Shared) (u : Value), BindsTo s fd ⟨[u], []⟩ [(x, u)]) ∧
        ∀ base : Heap, K.In base → base.Ns mainGlobals mg → FnOk l.prog w K mg base CX0 k fa fd [x] (spLaw K)) :
    PySem.W.WalkO q loose XP YP l.row.toRowW d [] (fun f vs => PySem.call f vs) := by
  refine Att.attach_callB hn hdf fun w s₀ s₁ mg mb fa o pm cd doc a vs ns G Y ho hd hcd hmg hobj hints hlen hbits hg => ?_
  obtain ⟨K, fd, KX, hb, hF⟩ := F w mg fa _ Y G.T.g hmg
  exact law_call KX G.T.g G.T.b G.T.builtins G.T.nolimit hg hobj hints (Nat.le_trans hlen hn2) hr hF hb (fun H hO hS => ⟨a, ns, rfl, Nat.le_trans hlen h63, hbits, fz_of hO hS, fun _ => rfl⟩) fun H e s' => fun z => z
end Pd
set_option Elab.async false
set_option linter.all false
set_option maxRecDepth 100000
set_option maxHeartbeats 4000000
namespace Pd
open PySem L2
open PySem.W (dataLt alike alikeAll)
/-! ### costs -/
abbrev C := Int × Int
def cD (c : C) : D := .tup [.int c.1, .int c.2]
def oD : Option C → D
  | none => .non
  | some c => cD c
def clt (a b : C) : Bool := decide (a.1 < b.1 ∨ (a.1 = b.1 ∧ a.2 < b.2))
def cadd (a b : C) : C := (a.1 + b.1, a.2 + b.2)
def oadd : Option C → Option C → Option C
  | some a, some b => some (cadd a b)
  | _, _ => none
/-- the first of the least -/
def cmin (a : C) (l : List C) : C := l.foldl (fun m y => if clt y m = true then y else m) a
def oleast (l : List (Option C)) : Option C := match l.filterMap id with
  | [] => none
  | a :: r => some (cmin a r)
theorem lt_cost (a b : C) : dataLt (toP (cD a)) (toP (cD b)) = clt a b := by
  show dataLt (.tuple [.int a.1, .int a.2]) (.tuple [.int b.1, .int b.2]) = _
  rw [PySem.W.dataLt_ii]
  rfl
theorem alike_cost (a b : C) : alike (toP (cD a)) (toP (cD b)) = true := by
  simp [cD, toP, toPs, alike, alikeAll]
theorem shal_cost (a : C) (n : Nat) : shal (cD a) (n + 1) = true := by simp [cD, shal, shals]
theorem imm_cost (a : C) : imm (cD a) = true := by simp [cD, imm, immAll]
theorem imm_o (a : Option C) : imm (oD a) = true := by cases a <;> simp [oD, imm, imm_cost]
theorem isNon_o (a : Option C) : isNon (oD a) = a.isNone := by cases a <;> rfl
theorem isNon_cost (a : C) : isNon (cD a) = false := rfl
theorem minL_cost (l : List C) : ∀ a : C, minL (cD a) (l.map cD) = cD (cmin a l) := by
  induction l with
  | nil => intro a; rfl
  | cons b l ih =>
    intro a
    show (l.map cD).foldl _ (if dataLt (toP (cD b)) (toP (cD a)) = true then cD b else cD a) = _
    rw [lt_cost]
    have : (if clt b a = true then cD b else cD a) = cD (if clt b a = true then b else a) := by split <;> rfl
    rw [this]
    exact ih _
theorem okMin_cost (l : List C) : okMin (l.map cD) = true := by
  unfold okMin
  simp [List.all_eq_true, shal_cost, isNon_cost, alike_cost]
theorem minDef_cost (l : List C) : minDef (.lst (l.map cD)) = some (match l with
    | [] => .non
    | a :: r => cD (cmin a r)) := by
  cases l with
  | nil => rfl
  | cons a r =>
    unfold minDef
    simp only [itmL, List.map_cons]
    have h := okMin_cost (a :: r)
    rw [List.map_cons] at h
    rw [if_pos h, minL_cost]
/-! ### comprehensions over typed lists -/
theorem lcGo_map {α : Type} {tg : D → Env → Option Env} {ft : Env → R Bool} {fe : Env → R D} {ρ : Env} (en : α → D) (ρx : α → Env) (p : α → Bool) (g : α → D) : ∀ xs : List α,
    (∀ x ∈ xs, tg (en x) ρ = some (ρx x) ∧ ft (ρx x) = .ok (p x) ∧ (p x = true → fe (ρx x) = .ok (g x))) → lcGo tg ft fe ρ (xs.map en) = .ok ((xs.filter p).map g)
  | [], _ => rfl
  | x :: xs, h => by
    obtain ⟨h1, h2, h3⟩ := h x List.mem_cons_self
    have ih := lcGo_map en ρx p g xs fun y hy => h y (List.mem_cons_of_mem _ hy)
    rw [List.map_cons]
    unfold lcGo
    rw [h1]
    simp only [h2]
    cases hp : p x with
    | true => simp only [h3 hp, ih, List.filter_cons, hp, if_true, List.map_cons]
    | false => simp only [ih, List.filter_cons, hp, Bool.false_eq_true, if_false]
/-! ### loops over typed lists -/
theorem forD_inv {α : Type} {h : D → Env → Option Env} {body : Env → SR} (en : α → D) (Inv : List α → Env → Prop) : ∀ (pre xs : List α) (ρ : Env), Inv pre ρ →
    (∀ (pre : List α) (x : α) (post : List α) (ρ : Env), Inv pre ρ → (∃ a b, a ++ x :: b = pre ++ x :: post) → ∃ ρ1 ρ2, h (en x) ρ = some ρ1 ∧ (body ρ1 = .nx ρ2 ∨ body ρ1 = .ct ρ2) ∧ Inv (pre ++ [x]) ρ2) →
    ∃ ρ', forD h body (xs.map en) ρ = .nx ρ' ∧ Inv (pre ++ xs) ρ'
  | pre, [], ρ, hi, _ => ⟨ρ, rfl, by simpa using hi⟩
  | pre, x :: xs, ρ, hi, hs => by
    obtain ⟨ρ1, ρ2, h1, h2, h3⟩ := hs pre x xs ρ hi ⟨pre, xs, rfl⟩
    obtain ⟨ρ', h4, h5⟩ := forD_inv en Inv (pre ++ [x]) xs ρ2 h3 hs
    refine ⟨ρ', ?_, by simpa using h5⟩
    rw [List.map_cons]
    unfold forD
    rw [h1]
    rcases h2 with h2 | h2 <;> simp only [h2] <;> exact h4
end Pd
set_option Elab.async false
set_option linter.all false
set_option maxRecDepth 100000
set_option maxHeartbeats 4000000
namespace Pd
open PySem L2
open PySem.W (dataLt alike alikeAll)
/-! ### the evaluation of denotations, by simp -/
@[simp] theorem e_sSeq {ρ : Env} {a b : Env → SR} : sSeq a b ρ = (a ρ).then b := rfl
@[simp] theorem e_nx {ρ : Env} {k : Env → SR} : (SR.nx ρ).then k = k ρ := rfl
@[simp] theorem e_rt {ρ : Env} {k : Env → SR} {d : D} : (SR.rt d ρ).then k = .rt d ρ := rfl
@[simp] theorem e_ex {ρ : Env} {k : Env → SR} {d : Str} : (SR.ex d ρ).then k = .ex d ρ := rfl
@[simp] theorem e_bk {ρ : Env} {k : Env → SR} : (SR.bk ρ).then k = .bk ρ := rfl
@[simp] theorem e_ct {ρ : Env} {k : Env → SR} : (SR.ct ρ).then k = .ct ρ := rfl
@[simp] theorem e_no  {k : Env → SR} : (SR.no).then k = .no := rfl
@[simp] theorem e_sNil {ρ : Env} : sNil ρ = .nx ρ := rfl
@[simp] theorem e_sBrk {ρ : Env} : sBrk ρ = .bk ρ := rfl
@[simp] theorem e_sCnt {ρ : Env} : sCnt ρ = .ct ρ := rfl
def SR.br (r : R Bool) (x y : Env → SR) (ρ : Env) : SR := match r with
  | .ok true => x ρ
  | .ok false => y ρ
  | .exc e => .ex e ρ
  | .no => .no
@[simp] theorem e_br_t {x y : Env → SR} {ρ : Env} : SR.br (.ok true) x y ρ = x ρ := rfl
@[simp] theorem e_br_f {x y : Env → SR} {ρ : Env} : SR.br (.ok false) x y ρ = y ρ := rfl
@[simp] theorem e_sIf {t : Env → R Bool} {a b : Env → SR} {ρ : Env} : sIf t a b ρ = SR.br (t ρ) a b ρ := rfl
theorem e_br_b {x y : Env → SR} {ρ : Env} {b : Bool} : SR.br (.ok b) x y ρ = if b = true then x ρ else y ρ := by cases b <;> rfl
def SR.st (r : R D) (k : D → SR) (ρ : Env) : SR := match r with
  | .ok d => k d
  | .exc x => .ex x ρ
  | .no => .no
@[simp] theorem e_st_ok {d : D} {k : D → SR} {ρ : Env} : SR.st (.ok d) k ρ = k d := rfl
@[simp] theorem e_st_exc {x : Str} {k : D → SR} {ρ : Env} : SR.st (.exc x) k ρ = .ex x ρ := rfl
@[simp] theorem e_sRet {f : Env → R D} {ρ : Env} : sRet f ρ = SR.st (f ρ) (fun d => .rt d ρ) ρ := rfl
@[simp] theorem e_sExp {f : Env → R D} {ρ : Env} : sExp f ρ = SR.st (f ρ) (fun d => .nx ρ) ρ := rfl
@[simp] theorem e_sSet {i : Nat} {f : Env → R D} {ρ : Env} : sSet i f ρ = SR.st (f ρ) (fun d => .nx (ρ.set i (some d))) ρ := rfl
@[simp] theorem e_sSetR {i : Nat} {f : Env → R D} {ρ : Env} : sSetR i f ρ = SR.st (f ρ) (fun d => if isRoot d = true then .nx (ρ.set i (some d)) else .no) ρ := rfl
@[simp] theorem e_root_lst {xs : List D} : isRoot (.lst xs) = true := rfl
@[simp] theorem e_root_dK {xs : List Key} {vs : List D} : isRoot (.dK xs vs) = true := rfl
@[simp] theorem e_root_dT {xs : List (List Key)} {vs : List D} : isRoot (.dT xs vs) = true := rfl
def SR.og (r : Option Env) : SR := match r with
  | some ρ => .nx ρ
  | none => .no
@[simp] theorem e_og {ρ : Env} : SR.og (some ρ) = .nx ρ := rfl
@[simp] theorem e_sAsg {f : Env → R D} {h : D → Env → Option Env} {ρ : Env} : sAsg f h ρ = SR.st (f ρ) (fun d => SR.og (h d ρ)) ρ := rfl
@[simp] theorem e_sRaise {x : Str} {ρ : Env} : sRaise x ρ = .ex x ρ := rfl
@[simp] theorem e_f2 {α : Type} {s : D → D → Option α} {fa fb : Env → R D} {ρ : Env} : f2 s fa fb ρ = (fa ρ).bind fun d => (fb ρ).bind fun e => ofO (s d e) := rfl
@[simp] theorem e_f1 {α : Type} {s : D → Option α} {fa : Env → R D} {ρ : Env} : f1 s fa ρ = (fa ρ).bind fun d => ofO (s d) := rfl
@[simp] theorem e_fS {s : List D → Option D} {fs : Env → R (List D)} {ρ : Env} : fS s fs ρ = (fs ρ).bind fun ds => ofO (s ds) := rfl
@[simp] theorem e_fCons {fa : Env → R D} {fr : Env → R (List D)} {ρ : Env} : fCons fa fr ρ = (fa ρ).bind fun d => (fr ρ).bind fun ds => .ok (d :: ds) := rfl
@[simp] theorem e_fNil {ρ : Env} : fNil ρ = .ok [] := rfl
def getE (o : Option (Option D)) : R D := match o with
  | some (some d) => .ok d
  | _ => .no
@[simp] theorem e_getE {d : D} : getE (some (some d)) = .ok d := rfl
@[simp] theorem e_fVar {i : Nat} {ρ : Env} : fVar i ρ = getE (ρ[i]?) := rfl
@[simp] theorem e_fC {d : D} {ρ : Env} : fC d ρ = .ok d := rfl
@[simp] theorem e_ofO_some {α : Type} {a : α} : ofO (some a) = .ok a := rfl
@[simp] theorem e_ofO_none {α : Type} : ofO (none : Option α) = .no := rfl
@[simp] theorem e_fImm {f : Env → R D} {ρ : Env} : fImm f ρ = (f ρ).bind fun d => ofO (chk d) := rfl
theorem chk_imm {d : D} (h : imm d = true) : chk d = some d := by unfold chk; rw [if_pos h]
@[simp] theorem e_chk_int {i : Int} : chk (.int i) = some (.int i) := rfl
@[simp] theorem e_chk_bl {i : Bool} : chk (.bl i) = some (.bl i) := rfl
@[simp] theorem e_chk_str {i : Str} : chk (.str i) = some (.str i) := rfl
@[simp] theorem e_chk_non : chk .non = some .non := rfl
@[simp] theorem e_chk_c {c : C} : chk (cD c) = some (cD c) := rfl
@[simp] theorem e_chk_o {c : Option C} : chk (oD c) = some (oD c) := chk_imm (imm_o c)
@[simp] theorem e_chk_tup {xs : List D} : chk (.tup xs) = if immAll xs = true then some (.tup xs) else none := by
  unfold chk; rw [imm]
@[simp] theorem e_immAll_nil : immAll [] = true := rfl
@[simp] theorem e_immAll_cons {d : D} {ds : List D} : immAll (d :: ds) = (imm d && immAll ds) := by rw [immAll]
@[simp] theorem e_imm_int {i : Int} : imm (.int i) = true := rfl
@[simp] theorem e_imm_bl {i : Bool} : imm (.bl i) = true := rfl
@[simp] theorem e_imm_str {i : Str} : imm (.str i) = true := rfl
@[simp] theorem e_imm_non : imm .non = true := rfl
@[simp] theorem e_imm_tup {xs : List D} : imm (.tup xs) = immAll xs := by rw [imm]
@[simp] theorem e_imm_c {c : C} : imm (cD c) = true := rfl
@[simp] theorem e_imm_o {c : Option C} : imm (oD c) = true := imm_o c
@[simp] theorem e_fIf {ft : Env → R Bool} {fa fb : Env → R D} {ρ : Env} : fIf ft fa fb ρ = (ft ρ).bind fun b => if b = true then fa ρ else fb ρ := rfl
@[simp] theorem e_fAndV {fa fb : Env → R D} {ρ : Env} : fAndV fa fb ρ = (fa ρ).bind fun d => (toB d).bind fun b => if b = true then fb ρ else .ok (.bl false) := rfl
@[simp] theorem e_fOrV {fa fb : Env → R D} {ρ : Env} : fOrV fa fb ρ = (fa ρ).bind fun d => (toB d).bind fun b => if b = true then .ok (.bl true) else fb ρ := rfl
@[simp] theorem e_fNotV {fa : Env → R D} {ρ : Env} : fNotV fa ρ = (fa ρ).bind fun d => (toB d).bind fun b => .ok (.bl (!b)) := rfl
@[simp] theorem e_toB {b : Bool} : toB (.bl b) = .ok b := rfl
@[simp] theorem e_fT {f : Env → R D} {ρ : Env} : fT f ρ = (f ρ).bind toB := rfl
@[simp] theorem e_ofB {b : Bool} : ofB (.ok b) = .ok (.bl b) := rfl
@[simp] theorem e_fB {f : Env → R Bool} {ρ : Env} : fB f ρ = ofB (f ρ) := rfl
@[simp] theorem e_tAndF {fa fb : Env → R Bool} {ρ : Env} : tAndF fa fb ρ = (fa ρ).bind fun b => if b = true then fb ρ else .ok false := rfl
@[simp] theorem e_tOrF {fa fb : Env → R Bool} {ρ : Env} : tOrF fa fb ρ = (fa ρ).bind fun b => if b = true then .ok true else fb ρ := rfl
@[simp] theorem e_tNotF {fa : Env → R Bool} {ρ : Env} : tNotF fa ρ = (fa ρ).bind fun b => .ok (!b) := rfl
@[simp] theorem e_tTrue {ρ : Env} : tTrue ρ = .ok true := rfl
@[simp] theorem e_fChain {s s' : D → D → Option Bool} {fa fb fc : Env → R D} {ρ : Env} : fChain s s' fa fb fc ρ = (fa ρ).bind fun d => (fb ρ).bind fun e => (ofO (s d e)).bind fun b => if b = true then (fc ρ).bind fun g => ofO (s' e g) else .ok false := rfl
@[simp] theorem e_mkTup {fs : Env → R (List D)} {ρ : Env} : mkTup fs ρ = (fs ρ).bind fun ds => if ds.length ≤ 1000 then .ok (.tup ds) else .no := rfl
@[simp] theorem e_mkLst {fs : Env → R (List D)} {ρ : Env} : mkLst fs ρ = (fs ρ).bind fun ds => if ds.length ≤ 1000 then .ok (.lst ds) else .no := rfl
@[simp] theorem e_fSl {fa : Env → R D} {fl fh : Env → R (Option Int)} {ρ : Env} : fSl fa fl fh ρ = (fa ρ).bind fun d => (fl ρ).bind fun l => (fh ρ).bind fun h => ofO (slD d l h) := rfl
@[simp] theorem e_oNo {ρ : Env} : oNo ρ = .ok none := rfl
@[simp] theorem e_oSome {f : Env → R D} {ρ : Env} : oSome f ρ = (f ρ).bind toI := rfl
@[simp] theorem e_toI {i : Int} : toI (.int i) = .ok (some i) := rfl
@[simp] theorem e_fItm {f : Env → R D} {ρ : Env} : fItm f ρ = (f ρ).bind fun d => ofO (itm d) := rfl
@[simp] theorem e_itm_lst {xs : List D} : itm (.lst xs) = some xs := rfl
@[simp] theorem e_itm_fz {xs : List D} : itm (.fz xs) = some xs := rfl
@[simp] theorem e_itm_tup {xs : List D} : itm (.tup xs) = some xs := rfl
@[simp] theorem e_itmL_lst {xs : List D} : itmL (.lst xs) = some xs := rfl
@[simp] theorem e_itmL_fz {xs : List D} : itmL (.fz xs) = some xs := rfl
@[simp] theorem e_tgName {i : Nat} {d : D} {ρ : Env} : tgName i d ρ = some (ρ.set i (some d)) := rfl
@[simp] theorem e_tgTup {n : Nat} {h : List D → Env → Option Env} {ds : List D} {ρ : Env} : tgTup n h (.tup ds) ρ = if ds.length = n then h ds ρ else none := rfl
@[simp] theorem e_tgCons {h : D → Env → Option Env} {r : List D → Env → Option Env} {d : D} {ds : List D} {ρ : Env} : tgCons h r (d :: ds) ρ = (h d ρ).bind (r ds) := rfl
@[simp] theorem e_tgNil {ρ : Env} : tgNil [] ρ = some ρ := rfl
@[simp] theorem e_fCall {Fn : List D → R D} {dds : List D} {fs : Env → R (List D)} {ρ : Env} : fCall Fn dds fs ρ = (fs ρ).bind fun ds => Fn (ds ++ dds) := rfl
@[simp] theorem e_wipe_nil {ρ : Env} : wipeE ρ [] = ρ := rfl
@[simp] theorem e_wipe_cons {ρ : Env} {v : Nat} {vs : List Nat} : wipeE ρ (v :: vs) = (wipeE ρ vs).set v none := rfl
@[simp] theorem e_fFr {f : Env → R D} {ρ : Env} : fFr f ρ = (f ρ).bind chkL := rfl
@[simp] theorem e_chkL {xs : List D} : chkL (.lst xs) = if immAll xs = true then .ok (.lst xs) else .no := rfl
def SR.fin (r : SR) : R D := match r with
  | .rt d _ => .ok d
  | .nx _ => .ok .non
  | .ex x _ => .exc x
  | _ => .no
@[simp] theorem e_fin_rt {d : D} {ρ : Env} : SR.fin (.rt d ρ) = .ok d := rfl
@[simp] theorem e_fin_nx {ρ : Env} : SR.fin (.nx ρ) = .ok .non := rfl
@[simp] theorem e_fin_ex {x : Str} {ρ : Env} : SR.fin (.ex x ρ) = .exc x := rfl
theorem callD_eq {np n : Nat} {g : Env → SR} {ds : List D} (h : ds.length = np) : callD np n g ds = (g (ds.map some ++ List.replicate (n - ds.length) none)).fin := by
  unfold callD; rw [if_pos h]; rfl
theorem callD_fin {np n : Nat} {g : Env → SR} {ds : List D} : callD np n g ds = if ds.length = np then (g (ds.map some ++ List.replicate (n - ds.length) none)).fin else .no := rfl
/-! what the operators tell -/
@[simp] theorem e_isNon_o {a : Option C} : isNon (oD a) = a.isNone := isNon_o a
@[simp] theorem e_isNon_c {a : C} : isNon (cD a) = false := rfl
@[simp] theorem e_is_non {d : D} : isD d .non = some (isNon d) := by cases d <;> rfl
@[simp] theorem e_isnot_non {d : D} : isnotD d .non = some (!isNon d) := by cases d <;> rfl
@[simp] theorem e_isNon_non : isNon .non = true := rfl
@[simp] theorem e_isNon_int {i : Int} : isNon (.int i) = false := rfl
@[simp] theorem e_isNon_str {i : Str} : isNon (.str i) = false := rfl
@[simp] theorem e_isNon_bl {i : Bool} : isNon (.bl i) = false := rfl
@[simp] theorem e_isNon_tup {i : List D} : isNon (.tup i) = false := rfl
@[simp] theorem e_isNon_lst {i : List D} : isNon (.lst i) = false := rfl
@[simp] theorem e_is_bl {a b : Bool} : isD (.bl a) (.bl b) = some (a == b) := rfl
@[simp] theorem e_isnot_bl {a b : Bool} : isnotD (.bl a) (.bl b) = some (a != b) := rfl
@[simp] theorem e_add_int {i j : Int} : addD (.int i) (.int j) = some (.int (i + j)) := rfl
@[simp] theorem e_add_lst {i j : List D} : addD (.lst i) (.lst j) = if i.length + j.length ≤ SZ then some (.lst (i ++ j)) else none := rfl
@[simp] theorem e_add_str {i j : Str} : addD (.str i) (.str j) = if i.length + j.length ≤ SZ then some (.str (i ++ j)) else none := rfl
@[simp] theorem e_sub_int {i j : Int} : subD (.int i) (.int j) = some (.int (i - j)) := rfl
theorem e_mul_int {i j : Int} (h : -BIG < i ∧ i < BIG) (h' : -BIG < j ∧ j < BIG) : mulD (.int i) (.int j) = some (.int (i * j)) := if_pos ⟨h.1, h.2, h'⟩
@[simp] theorem e_div_int {i j : Int} : divD (.int i) (.int j) = if 0 < j ∧ j < BIGD then some (.int (i / j)) else none := rfl
@[simp] theorem e_mod_int {i j : Int} : modD (.int i) (.int j) = if 0 < j then some (.int (i % j)) else none := rfl
@[simp] theorem e_pow_int {i j : Int} : powD (.int i) (.int j) = if 0 ≤ j ∧ j ≤ 1000 ∧ -1000000000000 < i ∧ i < 1000000000000 then some (.int (i ^ j.toNat)) else none := rfl
@[simp] theorem e_neg_int {i : Int} : negD (.int i) = some (.int (-i)) := rfl
@[simp] theorem e_lt_int {i j : Int} : ltD (.int i) (.int j) = some (decide (i < j)) := rfl
@[simp] theorem e_le_int {i j : Int} : leD (.int i) (.int j) = some (decide (i ≤ j)) := rfl
@[simp] theorem e_gt_int {i j : Int} : gtD (.int i) (.int j) = some (decide (j < i)) := rfl
@[simp] theorem e_ge_int {i j : Int} : geD (.int i) (.int j) = some (decide (j ≤ i)) := rfl
theorem beq_dec (i j : Int) : (i == j) = decide (i = j) := by by_cases h : i = j <;> simp [h]
@[simp] theorem e_eq_int {i j : Int} : eqD (.int i) (.int j) = some (decide (i = j)) := by rw [← beq_dec]; rfl
@[simp] theorem e_ne_int {i j : Int} : neD (.int i) (.int j) = some (!decide (i = j)) := by rw [← beq_dec]; rfl
theorem eq_refl {d : D} (h : shal d 12 = true) : eqD d d = some true := by
  unfold eqD
  rw [h]
  rw [if_pos (by rfl), PySem.SeqAt.eqv_refl_plain _ (shal_ok d 12 h).1]
theorem ne_refl {d : D} (h : shal d 12 = true) : neD d d = some false := by
  unfold neD
  rw [h]
  rw [if_pos (by rfl), PySem.SeqAt.eqv_refl_plain _ (shal_ok d 12 h).1]
  rfl
@[simp] theorem e_ix_lst {xs : List D} {i : Int} : ixD (.lst xs) (.int i) = atI xs i := rfl
@[simp] theorem e_ix_fz {xs : List D} {i : Int} : ixD (.fz xs) (.int i) = atI xs i := rfl
@[simp] theorem e_ix_tup {xs : List D} {i : Int} : ixD (.tup xs) (.int i) = atI xs i := rfl
theorem at_nat {xs : List D} {k : Nat} {d : D} (h : xs[k]? = some d) : atI xs (k : Int) = some d := atI_nat h
@[simp] theorem e_at0 {d : D} {ds : List D} : atI (d :: ds) 0 = some d := atI_nat (j := 0) rfl
@[simp] theorem e_at1 {d e : D} {ds : List D} : atI (d :: e :: ds) 1 = some e := atI_nat (j := 1) rfl
@[simp] theorem e_at2 {d e f : D} {ds : List D} : atI (d :: e :: f :: ds) 2 = some f := atI_nat (j := 2) rfl
@[simp] theorem e_at3 {d e f g : D} {ds : List D} : atI (d :: e :: f :: g :: ds) 3 = some g := atI_nat (j := 3) rfl
@[simp] theorem e_len {d : D} {xs : List D} : lenS [.lst xs] = some (.int xs.length) := rfl
@[simp] theorem e_len_fz {d : D} {xs : List D} : lenS [.fz xs] = some (.int xs.length) := rfl
@[simp] theorem e_len_tup {d : D} {xs : List D} : lenS [.tup xs] = some (.int xs.length) := rfl
@[simp] theorem e_listS {d : D} : listS [d] = (itm d).map fun xs => .lst xs := rfl
@[simp] theorem e_isi {t : D → Bool} {d : D} : isiD t d = (tyN d).map fun _ => .bl (t d) := by unfold isiD; cases tyN d <;> rfl
@[simp] theorem e_tyN_tup {xs : List D} : tyN (.tup xs) = some "tuple" := rfl
@[simp] theorem e_tyN_lst {xs : List D} : tyN (.lst xs) = some "list" := rfl
@[simp] theorem e_tyN_int {xs : Int} : tyN (.int xs) = some "int" := rfl
@[simp] theorem e_tyN_bl {xs : Bool} : tyN (.bl xs) = some "bool" := rfl
@[simp] theorem e_tyN_str {xs : Str} : tyN (.str xs) = some "str" := rfl
@[simp] theorem e_tyN_non : tyN .non = some "NoneType" := rfl
@[simp] theorem e_isTup {xs : List D} : isTup (.tup xs) = true := rfl
@[simp] theorem e_isTup_lst {xs : List D} : isTup (.lst xs) = false := rfl
@[simp] theorem e_isTup_int {xs : Int} : isTup (.int xs) = false := rfl
@[simp] theorem e_isTup_non : isTup .non = false := rfl
@[simp] theorem e_isBol_int {xs : Int} : isBol (.int xs) = false := rfl
@[simp] theorem e_isBol_bl {xs : Bool} : isBol (.bl xs) = true := rfl
@[simp] theorem e_isBol_non : isBol .non = false := rfl
@[simp] theorem e_isInt_int {xs : Int} : isInt (.int xs) = true := rfl
@[simp] theorem e_isInt_bl {xs : Bool} : isInt (.bl xs) = true := rfl
@[simp] theorem e_isInt_non : isInt .non = false := rfl
@[simp] theorem e_isLst {xs : List D} : isLst (.lst xs) = true := rfl
@[simp] theorem e_rev_lst {xs : List D} : revD (.lst xs) = some (.lst xs.reverse) := rfl
/-- a comprehension over a typed list -/
theorem fLc_map {α : Type} {fi : Env → R (List D)} {tg : D → Env → Option Env} {ft : Env → R Bool} {fe : Env → R D} {vs : List Nat} {ρ : Env} (en : α → D) (xs : List α) (p : α → Bool) (g : α → D) (hfi : fi ρ = .ok (xs.map en)) (hl : xs.length ≤ SZ)
    (h : ∀ x ∈ xs, ∃ ρx, tg (en x) (wipeE ρ vs) = some ρx ∧ ft ρx = .ok (p x) ∧ (p x = true → fe ρx = .ok (g x))) : fLc fi tg ft fe vs ρ = .ok (.lst ((xs.filter p).map g)) := by
  have k : lcGo tg ft fe (wipeE ρ vs) (xs.map en) = .ok ((xs.filter p).map g) := by
    clear hfi hl
    induction xs with
    | nil => rfl
    | cons x xs ih =>
      obtain ⟨ρx, h1, h2, h3⟩ := h x List.mem_cons_self
      have ih := ih fun y hy => h y (List.mem_cons_of_mem _ hy)
      rw [List.map_cons]
      unfold lcGo
      rw [h1]
      simp only [h2]
      cases hp : p x with
      | true => simp only [h3 hp, ih, List.filter_cons, hp, if_true, List.map_cons]
      | false => simp only [ih, List.filter_cons, hp, Bool.false_eq_true, if_false]
  unfold fLc
  simp only [hfi, List.length_map, if_pos hl, k]
theorem fLc_all {α : Type} {fi : Env → R (List D)} {tg : D → Env → Option Env} {fe : Env → R D} {vs : List Nat} {ρ : Env} (en : α → D) (xs : List α) (g : α → D) (hfi : fi ρ = .ok (xs.map en)) (hl : xs.length ≤ SZ)
    (h : ∀ x ∈ xs, ∃ ρx, tg (en x) (wipeE ρ vs) = some ρx ∧ fe ρx = .ok (g x)) : fLc fi tg tTrue fe vs ρ = .ok (.lst (xs.map g)) := by
  have := fLc_map (ft := tTrue) en xs (fun _ => true) g hfi hl fun x hx => let ⟨ρx, h1, h2⟩ := h x hx; ⟨ρx, h1, rfl, fun _ => h2⟩
  rwa [List.filter_eq_self.mpr (fun _ _ => rfl)] at this
theorem SZ_eq : SZ = 1000000 := rfl
/-- big enough -/
def Big (i : Int) : Prop := -BIG < i ∧ i < BIG
theorem Big.of {i : Int} (h : i.natAbs < 2 ^ 1000) : Big i := by
  unfold Big
  rw [BIG_eq]
  have : (2 ^ 1000 : Nat) ≤ 2 ^ 1100000 := Nat.pow_le_pow_right (by decide) (by decide)
  generalize (2 ^ 1100000 : Nat) = N at this ⊢
  generalize (2 ^ 1000 : Nat) = M at this h
  omega
theorem Big.rng {i : Int} (h0 : 0 ≤ i) (h : i < 10 ^ 200) : Big i := Big.of (by
  have e : (10 : Int) ^ 200 = ((10 ^ 200 : Nat) : Int) := by norm_cast
  rw [e] at h
  have : (10 : Nat) ^ 200 ≤ 2 ^ 1000 := by decide
  generalize (10 ^ 200 : Nat) = N at *
  generalize (2 ^ 1000 : Nat) = M at *
  omega)
theorem Big.bits {i : Int} (h : Builtin.Int.intBits i ≤ 1048576) : Big i := by
  have hn : i.natAbs < 2 ^ 1048577 := by
    unfold Builtin.Int.intBits at h
    split at h
    · rename_i z
      have : i.natAbs = 0 := by simpa using z
      rw [this]; exact Nat.two_pow_pos _
    · have := Nat.lt_log2_self (n := i.natAbs)
      exact Nat.lt_of_lt_of_le this (Nat.pow_le_pow_right (by decide) (by omega))
  unfold Big
  rw [BIG_eq]
  have : (2 ^ 1048577 : Nat) ≤ 2 ^ 1100000 := Nat.pow_le_pow_right (by decide) (by decide)
  generalize (2 ^ 1100000 : Nat) = N at this ⊢
  generalize (2 ^ 1048577 : Nat) = M at this hn
  omega
/-! ### loops, by their places -/
theorem forD_go {h : D → Env → Option Env} {body : Env → SR} {Post : SR → Prop} (ds : List D) (Inv : Nat → Env → Prop)
    (step : ∀ (i : Nat) (d : D) (ρ : Env), ds[i]? = some d → Inv i ρ → ∃ ρ1, h d ρ = some ρ1 ∧ match body ρ1 with
      | .nx ρ2 => Inv (i + 1) ρ2
      | .ct ρ2 => Inv (i + 1) ρ2
      | .bk ρ2 => Post (.nx ρ2)
      | r => Post r)
    (fin : ∀ ρ, Inv ds.length ρ → Post (.nx ρ)) : ∀ (n i : Nat) (ρ : Env), i + n = ds.length → Inv i ρ → Post (forD h body (ds.drop i) ρ)
  | 0, i, ρ, e, hi => by
    rw [List.drop_eq_nil_of_le (by omega)]
    exact fin ρ (by rwa [← show i = ds.length by omega])
  | n + 1, i, ρ, e, hi => by
    have hlt : i < ds.length := by omega
    rw [List.drop_eq_getElem_cons hlt]
    obtain ⟨ρ1, h1, h2⟩ := step i _ ρ (List.getElem?_eq_getElem hlt) hi
    unfold forD
    simp only [h1]
    revert h2
    cases body ρ1 with
    | nx ρ2 => exact fun h2 => forD_go ds Inv step fin n (i + 1) ρ2 (by omega) h2
    | ct ρ2 => exact fun h2 => forD_go ds Inv step fin n (i + 1) ρ2 (by omega) h2
    | bk ρ2 => exact id
    | rt d ρ2 => exact id
    | ex x ρ2 => exact id
    | no => exact id
theorem forD_ind {h : D → Env → Option Env} {body : Env → SR} {Post : SR → Prop} (ds : List D) (Inv : Nat → Env → Prop) (ρ : Env) (start : Inv 0 ρ)
    (step : ∀ (i : Nat) (d : D) (ρ : Env), ds[i]? = some d → Inv i ρ → ∃ ρ1, h d ρ = some ρ1 ∧ match body ρ1 with
      | .nx ρ2 => Inv (i + 1) ρ2
      | .ct ρ2 => Inv (i + 1) ρ2
      | .bk ρ2 => Post (.nx ρ2)
      | r => Post r)
    (fin : ∀ ρ, Inv ds.length ρ → Post (.nx ρ)) : Post (forD h body ds ρ) := by
  have := forD_go ds Inv step fin ds.length 0 ρ (by omega) start
  rwa [List.drop_zero] at this
/-- a loop that runs to its end -/
theorem forD_all {h : D → Env → Option Env} {body : Env → SR} (ds : List D) (Inv : Nat → Env → Prop) (ρ : Env) (start : Inv 0 ρ)
    (step : ∀ (i : Nat) (d : D) (ρ : Env), ds[i]? = some d → Inv i ρ → ∃ ρ1 ρ2, h d ρ = some ρ1 ∧ body ρ1 = .nx ρ2 ∧ Inv (i + 1) ρ2) : ∃ ρ', forD h body ds ρ = .nx ρ' ∧ Inv ds.length ρ' :=
  forD_ind (Post := fun r => ∃ ρ', r = .nx ρ' ∧ Inv ds.length ρ') ds Inv ρ start (fun i d ρ h1 h2 => by
    obtain ⟨ρ1, ρ2, a, b, c⟩ := step i d ρ h1 h2
    exact ⟨ρ1, a, by rw [b]; exact c⟩) fun ρ h => ⟨ρ, rfl, h⟩
theorem sFor_ok {fi : Env → R (List D)} {h : D → Env → Option Env} {body : Env → SR} {ρ : Env} {ds : List D} (hf : fi ρ = .ok ds) : sFor fi h body ρ = forD h body ds ρ := by unfold sFor; rw [hf]
theorem enum_get {xs : List D} {i : Nat} {d : D} (h : (enumD 0 xs)[i]? = some d) : ∃ e, xs[i]? = some e ∧ d = .tup [.int (i : Nat), e] := by
  rw [enumD_get] at h
  obtain ⟨e, h1, h2⟩ := Option.map_eq_some_iff.mp h
  exact ⟨e, h1, by rw [← h2]; simp⟩
theorem rng_get {n : Int} {i : Nat} {d : D} (h : (rngD n)[i]? = some d) : (i : Int) < n ∧ d = .int (i : Nat) := by
  unfold rngD at h
  rw [List.getElem?_map] at h
  obtain ⟨j, h1, h2⟩ := Option.map_eq_some_iff.mp h
  have h3 := List.getElem?_eq_some_iff.mp h1
  obtain ⟨h4, h5⟩ := h3
  simp at h4 h5
  subst h5
  exact ⟨by omega, h2.symm⟩
theorem rng_len (n : Int) : (rngD n).length = n.toNat := by simp [rngD]
theorem map_get {α : Type} {en : α → D} {xs : List α} {i : Nat} {d : D} (h : (xs.map en)[i]? = some d) : ∃ x, xs[i]? = some x ∧ d = en x := by
  rw [List.getElem?_map] at h
  obtain ⟨x, h1, h2⟩ := Option.map_eq_some_iff.mp h
  exact ⟨x, h1, h2.symm⟩
@[simp] theorem e_fEnum {f : Env → R D} {ρ : Env} {xs : List D} (h : f ρ = .ok (.lst xs)) : fEnum f ρ = .ok (enumD 0 xs) := by
  unfold fEnum; rw [h]; rfl
@[simp] theorem e_fRange {f : Env → R D} {ρ : Env} {n : Int} (h : f ρ = .ok (.int n)) (h1 : -1000000 ≤ n) (h2 : n ≤ 1000000) : fRange f ρ = .ok (rngD n) := by
  unfold fRange; rw [h]
  simp only [R.bind_ok]
  rw [if_pos ⟨h1, h2⟩]
/-- a comprehension whose items are of some form -/
theorem fLc_ex {α β : Type} {fi : Env → R (List D)} {tg : D → Env → Option Env} {fe : Env → R D} {vs : List Nat} {ρ : Env} (en : α → D) (em : β → D) (xs : List α) (P : α → β → Prop) (hfi : fi ρ = .ok (xs.map en)) (hl : xs.length ≤ SZ)
    (h : ∀ x ∈ xs, ∃ ρx y, tg (en x) (wipeE ρ vs) = some ρx ∧ fe ρx = .ok (em y) ∧ P x y) : ∃ ys : List β, ys.length = xs.length ∧ (∀ (i : Nat) (x : α), xs[i]? = some x → ∃ y, ys[i]? = some y ∧ P x y) ∧ fLc fi tg tTrue fe vs ρ = .ok (.lst (ys.map em)) := by
  have k : ∃ ys : List β, ys.length = xs.length ∧ (∀ (i : Nat) (x : α), xs[i]? = some x → ∃ y, ys[i]? = some y ∧ P x y) ∧ lcGo tg tTrue fe (wipeE ρ vs) (xs.map en) = .ok (ys.map em) := by
    clear hfi hl
    induction xs with
    | nil => exact ⟨[], rfl, fun i x h => by simp at h, rfl⟩
    | cons x xs ih =>
      obtain ⟨ρx, y, h1, h2, h3⟩ := h x List.mem_cons_self
      obtain ⟨ys, e1, e2, e3⟩ := ih fun y hy => h y (List.mem_cons_of_mem _ hy)
      refine ⟨y :: ys, by simp [e1], fun i z hz => ?_, ?_⟩
      · cases i with
        | zero => simp at hz; subst hz; exact ⟨y, rfl, h3⟩
        | succ i => simp at hz; simpa using e2 i z hz
      · rw [List.map_cons]
        unfold lcGo
        rw [h1]
        simp only [e_tTrue, h2, e3, List.map_cons]
  obtain ⟨ys, e1, e2, e3⟩ := k
  refine ⟨ys, e1, e2, ?_⟩
  unfold fLc
  simp only [hfi, List.length_map, if_pos hl, e3]
end Pd
set_option Elab.async false
set_option linter.all false
set_option maxRecDepth 100000
set_option maxHeartbeats 4000000
namespace Nl
open PySem PySem.Spec PyProof.Rows L2 Pd
def g_added : Pd.Env → SR :=
  (sSeq
  (sIf (tOrF (f2 isD (fVar 0) (fC .non)) (f2 isD (fVar 1) (fC .non))) (sRet (fC .non)) sNil)
  (sRet (mkTup (fCons (fImm (f2 addD (f2 ixD (fVar 0) (fC (.int 0))) (f2 ixD (fVar 1) (fC (.int 0))))) (fCons (fImm (f2 addD (f2 ixD (fVar 0) (fC (.int 1))) (f2 ixD (fVar 1) (fC (.int 1))))) fNil)))))
theorem cd_added (x0 x1 : D) : callD 2 2 g_added [x0, x1] = (g_added [some x0, some x1]).fin := rfl
def c_least_1 : Pd.Env → R D :=
  (fLc (fItm (fVar 0)) (tgName 1) (f2 isnotD (fVar 1) (fC .non)) (fImm (fVar 1)) [1])
def g_least : Pd.Env → SR :=
  (sRet (fImm (f1 minDef c_least_1)))
theorem cd_least (x0 : D) : callD 1 2 g_least [x0] = (g_least [some x0, none]).fin := rfl
def g_road_cost : Pd.Env → SR :=
  (sSeq
  (sIf (f2 isD (f2 ixD (fVar 0) (fC (.int 2))) (fC .non)) (sRet (fC .non)) sNil)
  (sRet (mkTup (fCons (fImm (f2 ixD (fVar 0) (fC (.int 2)))) (fCons (fC (.int 1)) fNil)))))
theorem cd_road_cost (x0 : D) : callD 1 1 g_road_cost [x0] = (g_road_cost [some x0]).fin := rfl
def g__law_cost : Pd.Env → SR :=
  (sSeq
  (sIf (f2 eqD (f2 modD (fVar 0) (fC (.int 5))) (fC (.int 0))) (sRet (fC .non)) sNil)
  (sSeq
  (sSet 1 (f2 ixD (mkLst (fCons (fImm (f2 modD (f2 divD (fVar 0) (fC (.int 5))) (fC (.int 4)))) (fCons (fImm (f2 modD (f2 divD (fVar 0) (fC (.int 5))) (f2 powD (fC (.int 10)) (fC (.int 60))))) fNil))) (fImm (f2 modD (f2 divD (fVar 0) (fC (.int 100))) (fC (.int 2))))))
  (sRet (mkTup (fCons (fImm (fVar 1)) (fCons (fImm (f2 ixD (mkLst (fCons (f2 modD (f2 divD (fVar 0) (fC (.int 20))) (fC (.int 4))) (fCons (f2 modD (f2 mulD (fVar 0) (fC (.int 48271))) (f2 powD (fC (.int 10)) (fC (.int 20)))) fNil))) (f2 divD (f2 modD (f2 divD (fVar 0) (fC (.int 200))) (fC (.int 3))) (fC (.int 2))))) fNil))))))
theorem cd__law_cost (x0 : D) : callD 1 2 g__law_cost [x0] = (g__law_cost [some x0, none]).fin := rfl
def g__law_is : Pd.Env → SR :=
  (sSeq
  (sIf (f2 isD (fVar 1) (fC .non)) (sRet (fB (f2 isD (fVar 0) (fC .non)))) sNil)
  (sSeq
  (sIf (tOrF (tNotF (fT (f1 (isiD isTup) (fVar 0)))) (f2 neD (fS lenS (fCons (fVar 0) fNil)) (fC (.int 2)))) (sRet (fC (.bl false))) sNil)
  (sSeq
  (sIf (tOrF (fT (f1 (isiD isBol) (f2 ixD (fVar 0) (fC (.int 0))))) (fT (f1 (isiD isBol) (f2 ixD (fVar 0) (fC (.int 1)))))) (sRet (fC (.bl false))) sNil)
  (sRet (fB (f2 eqD (fVar 0) (fVar 1)))))))
theorem cd__law_is (x0 x1 : D) : callD 2 2 g__law_is [x0, x1] = (g__law_is [some x0, some x1]).fin := rfl
def g__law_added : Pd.Env → SR :=
  (sSeq
  (sIf (tOrF (f2 isD (fVar 0) (fC .non)) (f2 isD (fVar 1) (fC .non))) (sRet (fC .non)) sNil)
  (sRet (mkTup (fCons (fImm (f2 addD (f2 ixD (fVar 0) (fC (.int 0))) (f2 ixD (fVar 1) (fC (.int 0))))) (fCons (fImm (f2 addD (f2 ixD (fVar 0) (fC (.int 1))) (f2 ixD (fVar 1) (fC (.int 1))))) fNil)))))
theorem cd__law_added (x0 x1 : D) : callD 2 2 g__law_added [x0, x1] = (g__law_added [some x0, some x1]).fin := rfl
def g__law_least : Pd.Env → SR :=
  (sSeq
  (sIf (f2 isD (fVar 0) (fC .non)) (sRet (fImm (fVar 1))) sNil)
  (sSeq
  (sIf (tOrF (f2 isD (fVar 1) (fC .non)) (tOrF (f2 ltD (f2 ixD (fVar 0) (fC (.int 0))) (f2 ixD (fVar 1) (fC (.int 0)))) (tAndF (f2 eqD (f2 ixD (fVar 0) (fC (.int 0))) (f2 ixD (fVar 1) (fC (.int 0)))) (f2 leD (f2 ixD (fVar 0) (fC (.int 1))) (f2 ixD (fVar 1) (fC (.int 1))))))) (sRet (fImm (fVar 0))) sNil)
  (sRet (fImm (fVar 1)))))
theorem cd__law_least (x0 x1 : D) : callD 2 2 g__law_least [x0, x1] = (g__law_least [some x0, some x1]).fin := rfl
def c_law_1 : Pd.Env → R D :=
  (fLc (fItm (fSl (fVar 0) oNo (oSome (fC (.int 60))))) (tgName 2) tTrue (fCall (callD 1 2 g__law_cost) [] (fCons (f2 modD (fVar 2) (f2 powD (fC (.int 10)) (fC (.int 64)))) fNil)) [2])
def bd_law_1 : Pd.Env → SR :=
  (sSeq
  (sSet 3 (fCall (callD 2 2 g__law_least) [] (fCons (fVar 3) (fCons (fVar 6) fNil))))
  (sSeq
  (sIf (tNotF (fT (fCall (callD 2 2 g__law_is) [] (fCons (fCall (callD 1 2 g_least) [] (fCons (fSl (fVar 1) oNo (oSome (f2 addD (fVar 5) (fC (.int 1))))) fNil)) (fCons (fVar 3) fNil))))) (sRet (fC (.bl false))) sNil)
  (sSeq
  (sIf (tOrF (tNotF (fT (fCall (callD 2 2 g__law_is) [] (fCons (fCall (callD 2 2 g_added) [] (fCons (fVar 4) (fCons (fVar 6) fNil))) (fCons (fCall (callD 2 2 g__law_added) [] (fCons (fVar 4) (fCons (fVar 6) fNil))) fNil))))) (tNotF (fT (fCall (callD 2 2 g__law_is) [] (fCons (fCall (callD 2 2 g_added) [] (fCons (fVar 6) (fCons (fC .non) fNil))) (fCons (fC .non) fNil)))))) (sRet (fC (.bl false))) sNil)
  (sSeq
  (sIf (tOrF (tNotF (fT (fCall (callD 2 2 g__law_is) [] (fCons (fCall (callD 2 2 g_added) [] (fCons (fVar 6) (fCons (fVar 6) fNil))) (fCons (fCall (callD 2 2 g__law_added) [] (fCons (fVar 6) (fCons (fVar 6) fNil))) fNil))))) (tNotF (fT (fCall (callD 2 2 g__law_is) [] (fCons (fCall (callD 2 2 g_added) [] (fCons (fC .non) (fCons (fVar 6) fNil))) (fCons (fC .non) fNil)))))) (sRet (fC (.bl false))) sNil)
  (sSeq
  (sSet 7 (mkTup (fCons (fC (.int 0)) (fCons (fC (.int 1)) (fCons (fC .non) (fCons (fVar 5) fNil))))))
  (sSeq
  (sSet 8 (fC .non))
  (sSeq
  (sIf (f2 isnotD (fVar 6) (fC .non)) (sSeq
  (sSet 7 (mkTup (fCons (fImm (f2 modD (fVar 5) (fC (.int 15)))) (fCons (fImm (f2 addD (f2 modD (fVar 5) (fC (.int 15))) (fC (.int 1)))) (fCons (f2 ixD (fVar 6) (fC (.int 0))) (fCons (f2 ixD (fVar 6) (fC (.int 1))) fNil))))))
  (sSet 8 (mkTup (fCons (f2 ixD (fVar 6) (fC (.int 0))) (fCons (fC (.int 1)) fNil))))) sNil)
  (sSeq
  (sIf (tNotF (fT (fCall (callD 2 2 g__law_is) [] (fCons (fCall (callD 1 1 g_road_cost) [] (fCons (fVar 7) fNil)) (fCons (fVar 8) fNil))))) (sRet (fC (.bl false))) sNil)
  (sSet 4 (fVar 6))))))))))
def l_law_1 : Pd.Env → SR :=
  (sFor (fEnum (fVar 1)) (tgTup 2 (tgCons (tgName 5) (tgCons (tgName 6) tgNil))) bd_law_1)
def g_law : Pd.Env → SR :=
  (sSeq
  (sSet 1 c_law_1)
  (sSeq
  (sIf (tOrF (tNotF (fT (fCall (callD 2 2 g__law_is) [] (fCons (fCall (callD 1 2 g_least) [] (fCons (mkLst fNil) fNil)) (fCons (fC .non) fNil))))) (tOrF (tNotF (fT (fCall (callD 2 2 g__law_is) [] (fCons (fCall (callD 1 2 g_least) [] (fCons (mkLst (fCons (fC .non) fNil)) fNil)) (fCons (fC .non) fNil))))) (tNotF (fT (fCall (callD 2 2 g__law_is) [] (fCons (fCall (callD 2 2 g_added) [] (fCons (fC .non) (fCons (fC .non) fNil))) (fCons (fC .non) fNil))))))) (sRet (fC (.bl false))) sNil)
  (sSeq
  (sSet 3 (fC .non))
  (sSeq
  (sSet 4 (mkTup (fCons (fC (.int 0)) (fCons (fC (.int 0)) fNil))))
  (sSeq
  l_law_1
  (sSeq
  (sSet 9 (fS listS (fCons (fVar 1) fNil)))
  (sRet (fAndV (fCall (callD 2 2 g__law_is) [] (fCons (fCall (callD 1 2 g_least) [] (fCons (f1 revD (fVar 9)) fNil)) (fCons (fVar 3) fNil))) (fAndV (fCall (callD 2 2 g__law_is) [] (fCons (fCall (callD 1 2 g_least) [] (fCons (fVar 9) fNil)) (fCons (fVar 3) fNil))) (fB (f2 eqD (fVar 9) (fVar 1))))))))))))
theorem cd_law (x0 : D) : callD 1 10 g_law [x0] = (g_law [some x0, none, none, none, none, none, none, none, none, none]).fin := rfl
end Nl
set_option Elab.async false
set_option linter.all false
set_option maxRecDepth 100000
set_option maxHeartbeats 4000000
namespace Nl
open PySem PySem.Spec PyProof.Rows L2 Pd
def topS (i : Nat) : Stmt := PySem.Challenge.pw_nodeladder_k02_costs_together.main.body.getD i (.Pass ⟨0, 0, 0, 0⟩)
/-- what the top has written -/
structure Tab (K : PySem.W.Frag) (mg : Str → Option Value) : Prop where
  bi : Bi mg
  added : ∃ (f : Addr) (fd : FuncData), FunD K "added" "added" (defArgs (topS 1)) (defBody (topS 1)) (defScope (topS 1)) [] [] f fd ∧ mg "added" = some (.ref f)
  least : ∃ (f : Addr) (fd : FuncData), FunD K "least" "least" (defArgs (topS 2)) (defBody (topS 2)) (defScope (topS 2)) [] [] f fd ∧ mg "least" = some (.ref f)
  road_cost : ∃ (f : Addr) (fd : FuncData), FunD K "road_cost" "road_cost" (defArgs (topS 3)) (defBody (topS 3)) (defScope (topS 3)) [] [] f fd ∧ mg "road_cost" = some (.ref f)
  _law_cost : ∃ (f : Addr) (fd : FuncData), FunD K "_law_cost" "_law_cost" (defArgs (topS 5)) (defBody (topS 5)) (defScope (topS 5)) [] [] f fd ∧ mg "_law_cost" = some (.ref f)
  _law_is : ∃ (f : Addr) (fd : FuncData), FunD K "_law_is" "_law_is" (defArgs (topS 6)) (defBody (topS 6)) (defScope (topS 6)) [] [] f fd ∧ mg "_law_is" = some (.ref f)
  _law_added : ∃ (f : Addr) (fd : FuncData), FunD K "_law_added" "_law_added" (defArgs (topS 7)) (defBody (topS 7)) (defScope (topS 7)) [] [] f fd ∧ mg "_law_added" = some (.ref f)
  _law_least : ∃ (f : Addr) (fd : FuncData), FunD K "_law_least" "_law_least" (defArgs (topS 8)) (defBody (topS 8)) (defScope (topS 8)) [] [] f fd ∧ mg "_law_least" = some (.ref f)
  law : ∃ (f : Addr) (fd : FuncData), FunD K "law" "law" (defArgs (topS 9)) (defBody (topS 9)) (defScope (topS 9)) [] [] f fd ∧ mg "law" = some (.ref f)
section
variable {P : Program} {w : World} {K : PySem.W.Frag} {mg : Str → Option Value} {base : Heap}
abbrev s_added : Stmt := topS 1
abbrev n_added : List Str := ["one", "other"]
theorem sc_added : FnScope n_added (["one", "other"] : List Str) (defScope s_added) := ⟨rfl, rfl, rfl, by decide +kernel, rfl, by decide +kernel, by decide +kernel⟩
theorem b_added (T : Tab K mg) {cdv : Value} {A : Around} {outer : List PySem.Env} {s : Shared} {H : Hp} {E : XK} {Ad : Addr → Prop} {H0 : Hp} {io : Addr → Prop} {f : Addr} (hio : ∀ a, ¬ io a) (hr : Room 0 (A.deeper (envOfC "added" (defScope s_added) s.heap.objs.size f cdv))) :
    DSs (cxOf (L2.CX P w) P w K mg base n_added "added" (defScope s_added) f cdv A outer s H E) (mkC (cmOf K mg) (kdOf [.z, .z]) Ad H0 io E true) (defBody s_added) g_added :=
  have nd := (sc_added).nd
  (dss_cons
  (ds_if (dt_w (dw_or (tcmp (cmd_is) (vz 0) (de_non (q := .b))) (dw_or1 (tcmp (cmd_is) (vz 1) (de_non (q := .b)))))) (dss_one (rets (de_non (q := (.n []))) (rtn hio))) dss_nil)
  (dss_one (rets (de_tup (ac .n0 (de_imm (q := (.n [])) (de_weak_b (de_op2 (q := .b) opd_add .b (ix (q := .b) hr.units .b (vz 0) (de_int (q := .b))) (ix (q := .b) hr.units .b (vz 1) (de_int (q := .b)))))) (ac .n0 (de_imm (q := (.n [])) (de_weak_b (de_op2 (q := .b) opd_add .b (ix (q := .b) hr.units .b (vz 0) (de_int (q := .b))) (ix (q := .b) hr.units .b (vz 1) (de_int (q := .b)))))) (da_nil (q := (.n [])))))) (rtn hio))))
theorem fk_added (T : Tab K mg) {f : Addr} {fd : FuncData} (F : FunD K "added" "added" (defArgs s_added) (defBody s_added) (defScope s_added) [] [] f fd) : FnOk P w K mg base (L2.CX P w) 1 f fd (["one", "other"] : List Str) (spD (cmOf K mg) 2 true (callD 2 2 g_added)) :=
  fn_ok (kd := (kdOf [.z, .z])) F sc_added (by decide) (by decide) fun cdv A outer s H E Ad H0 io hio hr => b_added T hio hr
theorem fd_added (T : Tab K mg) : FD P w K mg base (cmOf K mg) "added" 1 (["one", "other"] : List Str) true 2 2 g_added := by
  obtain ⟨f, fd, F, hm⟩ := T.added
  exact ⟨f, fd, hm, F.kp, F.bindsN fun _ _ _ _ _ _ us hl => match us, hl with | [_, _], _ => rfl, rfl, fk_added T F⟩
abbrev s_least : Stmt := topS 2
abbrev n_least : List Str := ["some", "cost"]
theorem sc_least : FnScope n_least (["some"] : List Str) (defScope s_least) := ⟨rfl, rfl, rfl, by decide +kernel, rfl, by decide +kernel, by decide +kernel⟩
theorem b_least (T : Tab K mg) {cdv : Value} {A : Around} {outer : List PySem.Env} {s : Shared} {H : Hp} {E : XK} {Ad : Addr → Prop} {H0 : Hp} {io : Addr → Prop} {f : Addr} (hio : ∀ a, ¬ io a) (hr : Room 0 (A.deeper (envOfC "least" (defScope s_least) s.heap.objs.size f cdv))) :
    DSs (cxOf (L2.CX P w) P w K mg base n_least "least" (defScope s_least) f cdv A outer s H E) (mkC (cmOf K mg) (kdOf [.z, .z]) Ad H0 io E true) (defBody s_least) g_least :=
  have nd := (sc_least).nd
  (dss_one (rets (de_imm (q := (.n [])) (de_weak_b (cMin0 rfl hr.units rfl T.bi.min (elc [("cost", 1)] rfl nd .n (iseq (vz 0)) (fun _ _ _ _ _ => (gname 1 nd)) (fun _ _ _ _ _ => dts_one (tcmp (cmd_isnot) (vz 1) (de_non (q := .b)))) (fun _ _ _ _ _ => (de_imm (q := (.n [])) (de_weak_b (vz 1)))) (ok := blkOk_by (N := n_least) (sc := defScope s_least) (by decide +kernel)))))) (rtn hio)))
theorem fk_least (T : Tab K mg) {f : Addr} {fd : FuncData} (F : FunD K "least" "least" (defArgs s_least) (defBody s_least) (defScope s_least) [] [] f fd) : FnOk P w K mg base (L2.CX P w) 1 f fd (["some"] : List Str) (spD (cmOf K mg) 1 true (callD 1 2 g_least)) :=
  fn_ok (kd := (kdOf [.z, .z])) F sc_least (by decide) (by decide) fun cdv A outer s H E Ad H0 io hio hr => b_least T hio hr
theorem fd_least (T : Tab K mg) : FD P w K mg base (cmOf K mg) "least" 1 (["some"] : List Str) true 1 2 g_least := by
  obtain ⟨f, fd, F, hm⟩ := T.least
  exact ⟨f, fd, hm, F.kp, F.bindsN fun _ _ _ _ _ _ us hl => match us, hl with | [_], _ => rfl, rfl, fk_least T F⟩
abbrev s_road_cost : Stmt := topS 3
abbrev n_road_cost : List Str := ["road"]
theorem sc_road_cost : FnScope n_road_cost (["road"] : List Str) (defScope s_road_cost) := ⟨rfl, rfl, rfl, by decide +kernel, rfl, by decide +kernel, by decide +kernel⟩
theorem b_road_cost (T : Tab K mg) {cdv : Value} {A : Around} {outer : List PySem.Env} {s : Shared} {H : Hp} {E : XK} {Ad : Addr → Prop} {H0 : Hp} {io : Addr → Prop} {f : Addr} (hio : ∀ a, ¬ io a) (hr : Room 0 (A.deeper (envOfC "road_cost" (defScope s_road_cost) s.heap.objs.size f cdv))) :
    DSs (cxOf (L2.CX P w) P w K mg base n_road_cost "road_cost" (defScope s_road_cost) f cdv A outer s H E) (mkC (cmOf K mg) (kdOf [.z]) Ad H0 io E true) (defBody s_road_cost) g_road_cost :=
  have nd := (sc_road_cost).nd
  (dss_cons
  (ds_if (tcmp (cmd_is) (ix (q := .b) hr.units .b (vz 0) (de_int (q := .b))) (de_non (q := .b))) (dss_one (rets (de_non (q := (.n []))) (rtn hio))) dss_nil)
  (dss_one (rets (de_tup (ac .n0 (de_imm (q := (.n [])) (de_weak_b (ix (q := .b) hr.units .b (vz 0) (de_int (q := .b))))) (ac .n0 (de_int (q := (.n []))) (da_nil (q := (.n [])))))) (rtn hio))))
theorem fk_road_cost (T : Tab K mg) {f : Addr} {fd : FuncData} (F : FunD K "road_cost" "road_cost" (defArgs s_road_cost) (defBody s_road_cost) (defScope s_road_cost) [] [] f fd) : FnOk P w K mg base (L2.CX P w) 1 f fd (["road"] : List Str) (spD (cmOf K mg) 1 true (callD 1 1 g_road_cost)) :=
  fn_ok (kd := (kdOf [.z])) F sc_road_cost (by decide) (by decide) fun cdv A outer s H E Ad H0 io hio hr => b_road_cost T hio hr
theorem fd_road_cost (T : Tab K mg) : FD P w K mg base (cmOf K mg) "road_cost" 1 (["road"] : List Str) true 1 1 g_road_cost := by
  obtain ⟨f, fd, F, hm⟩ := T.road_cost
  exact ⟨f, fd, hm, F.kp, F.bindsN fun _ _ _ _ _ _ us hl => match us, hl with | [_], _ => rfl, rfl, fk_road_cost T F⟩
abbrev s__law_cost : Stmt := topS 5
abbrev n__law_cost : List Str := ["_law_cell", "_law_length"]
theorem sc__law_cost : FnScope n__law_cost (["_law_cell"] : List Str) (defScope s__law_cost) := ⟨rfl, rfl, rfl, by decide +kernel, rfl, by decide +kernel, by decide +kernel⟩
theorem b__law_cost (T : Tab K mg) {cdv : Value} {A : Around} {outer : List PySem.Env} {s : Shared} {H : Hp} {E : XK} {Ad : Addr → Prop} {H0 : Hp} {io : Addr → Prop} {f : Addr} (hio : ∀ a, ¬ io a) (hr : Room 0 (A.deeper (envOfC "_law_cost" (defScope s__law_cost) s.heap.objs.size f cdv))) :
    DSs (cxOf (L2.CX P w) P w K mg base n__law_cost "_law_cost" (defScope s__law_cost) f cdv A outer s H E) (mkC (cmOf K mg) (kdOf [.z, .z]) Ad H0 io E true) (defBody s__law_cost) g__law_cost :=
  have nd := (sc__law_cost).nd
  (dss_cons
  (ds_if (tcmp (cmd_eq hr.units) (de_op2 (q := .b) opd_mod .b (vz 0) (de_int (q := .b))) (de_int (q := .b))) (dss_one (rets (de_non (q := (.n []))) (rtn hio))) dss_nil)
  (dss_cons
  (setz 1 nd (ix hr.units .z (de_lst (ac .z (de_imm (q := .z) (de_weak_b (de_op2 (q := .b) opd_mod .b (de_op2 (q := .b) opd_div .b (vz 0) (de_int (q := .b))) (de_int (q := .b))))) (ac .z (de_imm (q := .z) (de_weak_b (de_op2 (q := .b) opd_mod .b (de_op2 (q := .b) opd_div .b (vz 0) (de_int (q := .b))) (de_op2 (q := .b) opd_pow .b (de_int (q := .b)) (de_int (q := .b)))))) (da_nil (q := .z))))) (de_imm (q := .z) (de_weak_b (de_op2 (q := .b) opd_mod .b (de_op2 (q := .b) opd_div .b (vz 0) (de_int (q := .b))) (de_int (q := .b)))))))
  (dss_one (rets (de_tup (ac .n0 (de_imm (q := (.n [])) (de_weak_b (vz 1))) (ac .n0 (de_imm (q := (.n [])) (de_weak_b (ix (q := .b) hr.units .b (de_lst (ac .b (de_op2 (q := .b) opd_mod .b (de_op2 (q := .b) opd_div .b (vz 0) (de_int (q := .b))) (de_int (q := .b))) (ac .b (de_op2 (q := .b) opd_mod .b (de_op2 (q := .b) opd_mul .b (vz 0) (de_int (q := .b))) (de_op2 (q := .b) opd_pow .b (de_int (q := .b)) (de_int (q := .b)))) (da_nil (q := .b))))) (de_op2 (q := .b) opd_div .b (de_op2 (q := .b) opd_mod .b (de_op2 (q := .b) opd_div .b (vz 0) (de_int (q := .b))) (de_int (q := .b))) (de_int (q := .b)))))) (da_nil (q := (.n [])))))) (rtn hio)))))
theorem fk__law_cost (T : Tab K mg) {f : Addr} {fd : FuncData} (F : FunD K "_law_cost" "_law_cost" (defArgs s__law_cost) (defBody s__law_cost) (defScope s__law_cost) [] [] f fd) : FnOk P w K mg base (L2.CX P w) 1 f fd (["_law_cell"] : List Str) (spD (cmOf K mg) 1 true (callD 1 2 g__law_cost)) :=
  fn_ok (kd := (kdOf [.z, .z])) F sc__law_cost (by decide) (by decide) fun cdv A outer s H E Ad H0 io hio hr => b__law_cost T hio hr
theorem fd__law_cost (T : Tab K mg) : FD P w K mg base (cmOf K mg) "_law_cost" 1 (["_law_cell"] : List Str) true 1 2 g__law_cost := by
  obtain ⟨f, fd, F, hm⟩ := T._law_cost
  exact ⟨f, fd, hm, F.kp, F.bindsN fun _ _ _ _ _ _ us hl => match us, hl with | [_], _ => rfl, rfl, fk__law_cost T F⟩
abbrev s__law_is : Stmt := topS 6
abbrev n__law_is : List Str := ["_law_found", "_law_due"]
theorem sc__law_is : FnScope n__law_is (["_law_found", "_law_due"] : List Str) (defScope s__law_is) := ⟨rfl, rfl, rfl, by decide +kernel, rfl, by decide +kernel, by decide +kernel⟩
theorem b__law_is (T : Tab K mg) {cdv : Value} {A : Around} {outer : List PySem.Env} {s : Shared} {H : Hp} {E : XK} {Ad : Addr → Prop} {H0 : Hp} {io : Addr → Prop} {f : Addr} (hio : ∀ a, ¬ io a) (hr : Room 0 (A.deeper (envOfC "_law_is" (defScope s__law_is) s.heap.objs.size f cdv))) :
    DSs (cxOf (L2.CX P w) P w K mg base n__law_is "_law_is" (defScope s__law_is) f cdv A outer s H E) (mkC (cmOf K mg) (kdOf [.z, .z]) Ad H0 io E true) (defBody s__law_is) g__law_is :=
  have nd := (sc__law_is).nd
  (dss_cons
  (ds_if (tcmp (cmd_is) (vz 1) (de_non (q := .b))) (dss_one (rets (ecmp (q := (.n [])) (cmd_is) (vz 0) (de_non (q := .b))) (rtn hio))) dss_nil)
  (dss_cons
  (ds_if (dt_w (dw_or (dt_not (tval (isi (q := .b) ty_tup rfl T.bi.isinstance rfl T.bi.tuple bb_tuple (vz 0)))) (dw_or1 (tcmp (cmd_ne hr.units) (cB (q := .b) (cd_len rfl) rfl T.bi.len bb_len (ac .b (vz 0) (da_nil (q := .b)))) (de_int (q := .b)))))) (dss_one (rets (de_bl (q := (.n []))) (rtn hio))) dss_nil)
  (dss_cons
  (ds_if (dt_w (dw_or (tval (isi (q := .b) ty_bol rfl T.bi.isinstance rfl T.bi.bool bb_bool (ix (q := .b) hr.units .b (vz 0) (de_int (q := .b))))) (dw_or1 (tval (isi (q := .b) ty_bol rfl T.bi.isinstance rfl T.bi.bool bb_bool (ix (q := .b) hr.units .b (vz 0) (de_int (q := .b)))))))) (dss_one (rets (de_bl (q := (.n []))) (rtn hio))) dss_nil)
  (dss_one (rets (ecmp (q := (.n [])) (cmd_eq hr.units) (vz 0) (vz 1)) (rtn hio))))))
theorem fk__law_is (T : Tab K mg) {f : Addr} {fd : FuncData} (F : FunD K "_law_is" "_law_is" (defArgs s__law_is) (defBody s__law_is) (defScope s__law_is) [] [] f fd) : FnOk P w K mg base (L2.CX P w) 1 f fd (["_law_found", "_law_due"] : List Str) (spD (cmOf K mg) 2 true (callD 2 2 g__law_is)) :=
  fn_ok (kd := (kdOf [.z, .z])) F sc__law_is (by decide) (by decide) fun cdv A outer s H E Ad H0 io hio hr => b__law_is T hio hr
theorem fd__law_is (T : Tab K mg) : FD P w K mg base (cmOf K mg) "_law_is" 1 (["_law_found", "_law_due"] : List Str) true 2 2 g__law_is := by
  obtain ⟨f, fd, F, hm⟩ := T._law_is
  exact ⟨f, fd, hm, F.kp, F.bindsN fun _ _ _ _ _ _ us hl => match us, hl with | [_, _], _ => rfl, rfl, fk__law_is T F⟩
abbrev s__law_added : Stmt := topS 7
abbrev n__law_added : List Str := ["_law_one", "_law_other"]
theorem sc__law_added : FnScope n__law_added (["_law_one", "_law_other"] : List Str) (defScope s__law_added) := ⟨rfl, rfl, rfl, by decide +kernel, rfl, by decide +kernel, by decide +kernel⟩
theorem b__law_added (T : Tab K mg) {cdv : Value} {A : Around} {outer : List PySem.Env} {s : Shared} {H : Hp} {E : XK} {Ad : Addr → Prop} {H0 : Hp} {io : Addr → Prop} {f : Addr} (hio : ∀ a, ¬ io a) (hr : Room 0 (A.deeper (envOfC "_law_added" (defScope s__law_added) s.heap.objs.size f cdv))) :
    DSs (cxOf (L2.CX P w) P w K mg base n__law_added "_law_added" (defScope s__law_added) f cdv A outer s H E) (mkC (cmOf K mg) (kdOf [.z, .z]) Ad H0 io E true) (defBody s__law_added) g__law_added :=
  have nd := (sc__law_added).nd
  (dss_cons
  (ds_if (dt_w (dw_or (tcmp (cmd_is) (vz 0) (de_non (q := .b))) (dw_or1 (tcmp (cmd_is) (vz 1) (de_non (q := .b)))))) (dss_one (rets (de_non (q := (.n []))) (rtn hio))) dss_nil)
  (dss_one (rets (de_tup (ac .n0 (de_imm (q := (.n [])) (de_weak_b (de_op2 (q := .b) opd_add .b (ix (q := .b) hr.units .b (vz 0) (de_int (q := .b))) (ix (q := .b) hr.units .b (vz 1) (de_int (q := .b)))))) (ac .n0 (de_imm (q := (.n [])) (de_weak_b (de_op2 (q := .b) opd_add .b (ix (q := .b) hr.units .b (vz 0) (de_int (q := .b))) (ix (q := .b) hr.units .b (vz 1) (de_int (q := .b)))))) (da_nil (q := (.n [])))))) (rtn hio))))
theorem fk__law_added (T : Tab K mg) {f : Addr} {fd : FuncData} (F : FunD K "_law_added" "_law_added" (defArgs s__law_added) (defBody s__law_added) (defScope s__law_added) [] [] f fd) : FnOk P w K mg base (L2.CX P w) 1 f fd (["_law_one", "_law_other"] : List Str) (spD (cmOf K mg) 2 true (callD 2 2 g__law_added)) :=
  fn_ok (kd := (kdOf [.z, .z])) F sc__law_added (by decide) (by decide) fun cdv A outer s H E Ad H0 io hio hr => b__law_added T hio hr
theorem fd__law_added (T : Tab K mg) : FD P w K mg base (cmOf K mg) "_law_added" 1 (["_law_one", "_law_other"] : List Str) true 2 2 g__law_added := by
  obtain ⟨f, fd, F, hm⟩ := T._law_added
  exact ⟨f, fd, hm, F.kp, F.bindsN fun _ _ _ _ _ _ us hl => match us, hl with | [_, _], _ => rfl, rfl, fk__law_added T F⟩
abbrev s__law_least : Stmt := topS 8
abbrev n__law_least : List Str := ["_law_one", "_law_other"]
theorem sc__law_least : FnScope n__law_least (["_law_one", "_law_other"] : List Str) (defScope s__law_least) := ⟨rfl, rfl, rfl, by decide +kernel, rfl, by decide +kernel, by decide +kernel⟩
theorem b__law_least (T : Tab K mg) {cdv : Value} {A : Around} {outer : List PySem.Env} {s : Shared} {H : Hp} {E : XK} {Ad : Addr → Prop} {H0 : Hp} {io : Addr → Prop} {f : Addr} (hio : ∀ a, ¬ io a) (hr : Room 0 (A.deeper (envOfC "_law_least" (defScope s__law_least) s.heap.objs.size f cdv))) :
    DSs (cxOf (L2.CX P w) P w K mg base n__law_least "_law_least" (defScope s__law_least) f cdv A outer s H E) (mkC (cmOf K mg) (kdOf [.z, .z]) Ad H0 io E true) (defBody s__law_least) g__law_least :=
  have nd := (sc__law_least).nd
  (dss_cons
  (ds_if (tcmp (cmd_is) (vz 0) (de_non (q := .b))) (dss_one (rets (de_imm (q := (.n [])) (de_weak_b (vz 1))) (rtn hio))) dss_nil)
  (dss_cons
  (ds_if (dt_w (dw_or (tcmp (cmd_is) (vz 1) (de_non (q := .b))) (dw_or (tcmp (cmd_lt hr.units) (ix (q := .b) hr.units .b (vz 0) (de_int (q := .b))) (ix (q := .b) hr.units .b (vz 1) (de_int (q := .b)))) (dw_or1 (dt_w (dw_and (tcmp (cmd_eq hr.units) (ix (q := .b) hr.units .b (vz 0) (de_int (q := .b))) (ix (q := .b) hr.units .b (vz 1) (de_int (q := .b)))) (dw_and1 (tcmp (cmd_le hr.units) (ix (q := .b) hr.units .b (vz 0) (de_int (q := .b))) (ix (q := .b) hr.units .b (vz 1) (de_int (q := .b))))))))))) (dss_one (rets (de_imm (q := (.n [])) (de_weak_b (vz 0))) (rtn hio))) dss_nil)
  (dss_one (rets (de_imm (q := (.n [])) (de_weak_b (vz 1))) (rtn hio)))))
theorem fk__law_least (T : Tab K mg) {f : Addr} {fd : FuncData} (F : FunD K "_law_least" "_law_least" (defArgs s__law_least) (defBody s__law_least) (defScope s__law_least) [] [] f fd) : FnOk P w K mg base (L2.CX P w) 1 f fd (["_law_one", "_law_other"] : List Str) (spD (cmOf K mg) 2 true (callD 2 2 g__law_least)) :=
  fn_ok (kd := (kdOf [.z, .z])) F sc__law_least (by decide) (by decide) fun cdv A outer s H E Ad H0 io hio hr => b__law_least T hio hr
theorem fd__law_least (T : Tab K mg) : FD P w K mg base (cmOf K mg) "_law_least" 1 (["_law_one", "_law_other"] : List Str) true 2 2 g__law_least := by
  obtain ⟨f, fd, F, hm⟩ := T._law_least
  exact ⟨f, fd, hm, F.kp, F.bindsN fun _ _ _ _ _ _ us hl => match us, hl with | [_, _], _ => rfl, rfl, fk__law_least T F⟩
abbrev s_law : Stmt := topS 9
abbrev n_law : List Str := ["_law_script", "_law_costs", "_law_cell", "_law_best", "_law_ahead", "_law_k", "_law_cost_here", "_law_road", "_law_due", "_law_handed"]
theorem sc_law : FnScope n_law (["_law_script"] : List Str) (defScope s_law) := ⟨rfl, rfl, rfl, by decide +kernel, rfl, by decide +kernel, by decide +kernel⟩
theorem b_law (T : Tab K mg) {cdv : Value} {A : Around} {outer : List PySem.Env} {s : Shared} {H : Hp} {E : XK} {Ad : Addr → Prop} {H0 : Hp} {io : Addr → Prop} {f : Addr} (hio : ∀ a, ¬ io a) (hr : Room 1 (A.deeper (envOfC "law" (defScope s_law) s.heap.objs.size f cdv))) :
    DSs (cxOf (L2.CX P w) P w K mg base n_law "law" (defScope s_law) f cdv A outer s H E) (mkC (cmOf K mg) (kdOf [.z, .z, .z, .z, .z, .z, .z, .z, .z, .z]) Ad H0 io E true) (defBody s_law) g_law :=
  have nd := (sc_law).nd
  (dss_cons
  (setzLc 1 [("_law_cell", 2)] rfl nd .z (iseq (esl (vz 0) do_none (do_some (de_int (q := .b))))) (fun _ _ _ _ _ => (gname 2 nd)) (fun _ _ _ _ _ => dts_nil) (fun _ _ _ _ _ => (de_zn (cFD (fd__law_cost T) hr (by decide) takes_nox .fr rfl (ac .b (de_op2 (q := .b) opd_mod .b (vz 2) (de_op2 (q := .b) opd_pow .b (de_int (q := .b)) (de_int (q := .b)))) (da_nil (q := .b)))))) (ok := blkOk_by (N := n_law) (sc := defScope s_law) (by decide +kernel)))
  (dss_cons
  (ds_if (dt_w (dw_or (dt_not (tval (cFD (fd__law_is T) hr (by decide) (takes_of rfl rfl rfl rfl) .fr rfl (ac .b (cFD (fd_least T) hr (by decide) (takes_of rfl rfl rfl rfl) .fr rfl (ac .b (de_lst (da_nil (q := .b))) (da_nil (q := .b)))) (ac .b (de_non (q := .b)) (da_nil (q := .b))))))) (dw_or (dt_not (tval (cFD (fd__law_is T) hr (by decide) (takes_of rfl rfl rfl rfl) .fr rfl (ac .b (cFD (fd_least T) hr (by decide) (takes_of rfl rfl rfl rfl) .fr rfl (ac .b (de_lst (ac .b (de_non (q := .b)) (da_nil (q := .b)))) (da_nil (q := .b)))) (ac .b (de_non (q := .b)) (da_nil (q := .b))))))) (dw_or1 (dt_not (tval (cFD (fd__law_is T) hr (by decide) (takes_of rfl rfl rfl rfl) .fr rfl (ac .b (cFD (fd_added T) hr (by decide) (takes_of rfl rfl rfl rfl) .fr rfl (ac .b (de_non (q := .b)) (ac .b (de_non (q := .b)) (da_nil (q := .b))))) (ac .b (de_non (q := .b)) (da_nil (q := .b))))))))))) (dss_one (rets (de_bl (q := (.n []))) (rtn hio))) dss_nil)
  (dss_cons
  (setz 3 nd (de_non (q := .z)))
  (dss_cons
  (setz 4 nd (de_tup (ac .z (de_int (q := .z)) (ac .z (de_int (q := .z)) (da_nil (q := .z))))))
  (dss_cons
  (fors (passes_of rfl) rfl (ienum rfl T.bi.enumerate (vz 1)) (gtup 2 rfl (gcons (gname 5 nd) (gcons (gname 6 nd) dgs_nil)))
  (dss_cons
  (setz 3 nd (de_zn (cFD (fd__law_least T) hr (by decide) (takes_of rfl rfl rfl rfl) .fr rfl (ac .b (vz 3) (ac .b (vz 6) (da_nil (q := .b)))))))
  (dss_cons
  (ds_if (dt_not (tval (cFD (fd__law_is T) hr (by decide) (takes_of rfl rfl rfl rfl) .fr rfl (ac .b (cFD (fd_least T) hr (by decide) (takes_of rfl rfl rfl rfl) .fr rfl (ac .b (esl (vz 1) do_none (do_some (de_op2 (q := .b) opd_add .b (vz 5) (de_int (q := .b))))) (da_nil (q := .b)))) (ac .b (vz 3) (da_nil (q := .b))))))) (dss_one (rets (de_bl (q := (.n []))) (rtn hio))) dss_nil)
  (dss_cons
  (ds_if (dt_w (dw_or (dt_not (tval (cFD (fd__law_is T) hr (by decide) (takes_of rfl rfl rfl rfl) .fr rfl (ac .b (cFD (fd_added T) hr (by decide) (takes_of rfl rfl rfl rfl) .fr rfl (ac .b (vz 4) (ac .b (vz 6) (da_nil (q := .b))))) (ac .b (cFD (fd__law_added T) hr (by decide) (takes_of rfl rfl rfl rfl) .fr rfl (ac .b (vz 4) (ac .b (vz 6) (da_nil (q := .b))))) (da_nil (q := .b))))))) (dw_or1 (dt_not (tval (cFD (fd__law_is T) hr (by decide) (takes_of rfl rfl rfl rfl) .fr rfl (ac .b (cFD (fd_added T) hr (by decide) (takes_of rfl rfl rfl rfl) .fr rfl (ac .b (vz 6) (ac .b (de_non (q := .b)) (da_nil (q := .b))))) (ac .b (de_non (q := .b)) (da_nil (q := .b)))))))))) (dss_one (rets (de_bl (q := (.n []))) (rtn hio))) dss_nil)
  (dss_cons
  (ds_if (dt_w (dw_or (dt_not (tval (cFD (fd__law_is T) hr (by decide) (takes_of rfl rfl rfl rfl) .fr rfl (ac .b (cFD (fd_added T) hr (by decide) (takes_of rfl rfl rfl rfl) .fr rfl (ac .b (vz 6) (ac .b (vz 6) (da_nil (q := .b))))) (ac .b (cFD (fd__law_added T) hr (by decide) (takes_of rfl rfl rfl rfl) .fr rfl (ac .b (vz 6) (ac .b (vz 6) (da_nil (q := .b))))) (da_nil (q := .b))))))) (dw_or1 (dt_not (tval (cFD (fd__law_is T) hr (by decide) (takes_of rfl rfl rfl rfl) .fr rfl (ac .b (cFD (fd_added T) hr (by decide) (takes_of rfl rfl rfl rfl) .fr rfl (ac .b (de_non (q := .b)) (ac .b (vz 6) (da_nil (q := .b))))) (ac .b (de_non (q := .b)) (da_nil (q := .b)))))))))) (dss_one (rets (de_bl (q := (.n []))) (rtn hio))) dss_nil)
  (dss_cons
  (setz 7 nd (de_tup (ac .z (de_int (q := .z)) (ac .z (de_int (q := .z)) (ac .z (de_non (q := .z)) (ac .z (vz 5) (da_nil (q := .z))))))))
  (dss_cons
  (setz 8 nd (de_non (q := .z)))
  (dss_cons
  (ds_if (tcmp (cmd_isnot) (vz 6) (de_non (q := .b))) (dss_cons
  (setz 7 nd (de_tup (ac .z (de_imm (q := .z) (de_weak_b (de_op2 (q := .b) opd_mod .b (vz 5) (de_int (q := .b))))) (ac .z (de_imm (q := .z) (de_weak_b (de_op2 (q := .b) opd_add .b (de_op2 (q := .b) opd_mod .b (vz 5) (de_int (q := .b))) (de_int (q := .b))))) (ac .z (ix hr.units .z (vz 6) (de_int (q := .z))) (ac .z (ix hr.units .z (vz 6) (de_int (q := .z))) (da_nil (q := .z))))))))
  (dss_one (setz 8 nd (de_tup (ac .z (ix hr.units .z (vz 6) (de_int (q := .z))) (ac .z (de_int (q := .z)) (da_nil (q := .z)))))))) dss_nil)
  (dss_cons
  (ds_if (dt_not (tval (cFD (fd__law_is T) hr (by decide) (takes_of rfl rfl rfl rfl) .fr rfl (ac .b (cFD (fd_road_cost T) hr (by decide) (takes_of rfl rfl rfl rfl) .fr rfl (ac .b (vz 7) (da_nil (q := .b)))) (ac .b (vz 8) (da_nil (q := .b))))))) (dss_one (rets (de_bl (q := (.n []))) (rtn hio))) dss_nil)
  (dss_one (setz 4 nd (vz 6))))))))))))
  (dss_cons
  (setz 9 nd (cT (cd_list rfl) rfl T.bi.list bb_list (ac .z (vz 1) (da_nil (q := .z)))))
  (dss_one (rets (de_and (cFD (fd__law_is T) hr (by decide) (takes_of rfl rfl rfl rfl) .fr rfl (ac .b (cFD (fd_least T) hr (by decide) (takes_of rfl rfl rfl rfl) .fr rfl (ac .b (erev (vz 9)) (da_nil (q := .b)))) (ac .b (vz 3) (da_nil (q := .b))))) (de_and (cFD (fd__law_is T) hr (by decide) (takes_of rfl rfl rfl rfl) .fr rfl (ac .b (cFD (fd_least T) hr (by decide) (takes_of rfl rfl rfl rfl) .fr rfl (ac .b (vz 9) (da_nil (q := .b)))) (ac .b (vz 3) (da_nil (q := .b))))) (de_one (ecmp (q := (.n [])) (cmd_eq hr.units) (vz 9) (vz 1))))) (rtn hio)))))))))
theorem fk_law (T : Tab K mg) {f : Addr} {fd : FuncData} (F : FunD K "law" "law" (defArgs s_law) (defBody s_law) (defScope s_law) [] [] f fd) : FnOk P w K mg base (L2.CX P w) 2 f fd (["_law_script"] : List Str) (spD (cmOf K mg) 1 true (callD 1 10 g_law)) :=
  fn_ok (kd := (kdOf [.z, .z, .z, .z, .z, .z, .z, .z, .z, .z])) F sc_law (by decide) (by decide) fun cdv A outer s H E Ad H0 io hio hr => b_law T hio hr
theorem fd_law (T : Tab K mg) : FD P w K mg base (cmOf K mg) "law" 2 (["_law_script"] : List Str) true 1 10 g_law := by
  obtain ⟨f, fd, F, hm⟩ := T.law
  exact ⟨f, fd, hm, F.kp, F.bindsN fun _ _ _ _ _ _ us hl => match us, hl with | [_], _ => rfl, rfl, fk_law T F⟩
end
end Nl
set_option Elab.async false
set_option linter.all false
set_option maxRecDepth 100000
set_option maxHeartbeats 1000000
namespace Nl
open PySem L2 Pd
theorem ev_added (a b : Option C) : callD 2 2 g_added [oD a, oD b] = .ok (oD (oadd a b)) := by cases a <;> cases b <;> rfl
theorem ev__law_added (a b : Option C) : callD 2 2 g__law_added [oD a, oD b] = .ok (oD (oadd a b)) := by cases a <;> cases b <;> rfl
theorem filter_some (l : List (Option C)) : (l.filter (fun x => x.isSome)).map oD = (l.filterMap id).map cD := by
  induction l with
  | nil => rfl
  | cons a l ih => cases a <;> simp [oD, ih]
theorem ev_least (l : List (Option C)) (hl : l.length ≤ SZ) : callD 1 2 g_least [.lst (l.map oD)] = .ok (oD (oleast l)) := by
  have h : c_least_1 [some (.lst (l.map oD)), none] = .ok (.lst ((l.filterMap id).map cD)) := by
    rw [← filter_some]
    exact fLc_map oD l (fun x => x.isSome) oD rfl hl fun x _ => ⟨_, rfl, by cases x <;> rfl, fun _ => by cases x <;> rfl⟩
  rw [cd_least]
  simp [g_least, h, minDef_cost]
  unfold oleast
  cases l.filterMap id <;> simp [oD]
def rD (r : Int × Int × Option Int × Int) : D := .tup [.int r.1, .int r.2.1, (match r.2.2.1 with | some l => .int l | none => .non), .int r.2.2.2]
def rcost (r : Int × Int × Option Int × Int) : Option C := r.2.2.1.map fun l => (l, 1)
theorem ev_road_cost (r : Int × Int × Option Int × Int) : callD 1 1 g_road_cost [rD r] = .ok (oD (rcost r)) := by
  obtain ⟨a, b, l, w⟩ := r
  cases l <;> rfl
/-- the law's least of two -/
def lmin (a b : Option C) : Option C := match a, b with
  | none, b => b
  | a, none => a
  | some a, some b => if a.1 < b.1 ∨ (a.1 = b.1 ∧ a.2 ≤ b.2) then some a else some b
theorem ev__law_least (a b : Option C) : callD 2 2 g__law_least [oD a, oD b] = .ok (oD (lmin a b)) := by
  cases a with
  | none => cases b <;> rfl
  | some a =>
    cases b with
    | none => rfl
    | some b =>
      obtain ⟨a1, a2⟩ := a
      obtain ⟨b1, b2⟩ := b
      rw [cd__law_least]
      by_cases h1 : a1 < b1 <;> by_cases h2 : a1 = b1 <;> by_cases h3 : a2 ≤ b2 <;> simp [g__law_least, oD, cD, lmin, h1, h2, h3]
theorem shal_o (a : Option C) (n : Nat) : shal (oD a) (n + 1) = true := by
  cases a <;> simp [oD, cD, shal, shals]
theorem ev__law_is (a : Option C) : callD 2 2 g__law_is [oD a, oD a] = .ok (.bl true) := by
  cases a with
  | none => rfl
  | some a =>
    rw [cd__law_is]
    have := eq_refl (d := .tup [.int a.1, .int a.2]) (by simp [shal, shals])
    simp [g__law_is, oD, cD, this]
theorem ev__law_cost (c : Int) (h0 : 0 ≤ c) (h1 : c < 10 ^ 64) : ∃ a : Option C, callD 1 2 g__law_cost [.int c] = .ok (oD a) := by
  rw [cd__law_cost]
  have b1 : mulD (.int c) (.int 48271) = some (.int (c * 48271)) := e_mul_int (Big.rng h0 (by omega)) (Big.of (by decide))
  by_cases h5 : c % 5 = 0
  · exact ⟨none, by simp [g__law_cost, h5, oD]⟩
  · have a1 : c / 100 % 2 = 0 ∨ c / 100 % 2 = 1 := by omega
    have a2 : c / 200 % 3 / 2 = 0 ∨ c / 200 % 3 / 2 = 1 := by omega
    have : ∃ x y, (g__law_cost [some (.int c), none]).fin = .ok (.tup [.int x, .int y]) := by
      rcases a1 with a1 | a1 <;> rcases a2 with a2 | a2 <;> simp [g__law_cost, h5, a1, a2, b1, BIGD]
    obtain ⟨x, y, e⟩ := this
    exact ⟨some (x, y), e⟩
/-! the least of two, of many -/
theorem lmin_none (a : Option C) : lmin a none = a := by cases a <;> rfl
theorem lmin_comm (a b : Option C) : lmin a b = lmin b a := by
  cases a with
  | none => exact (lmin_none b).symm
  | some a => cases b with
    | none => rfl
    | some b =>
      obtain ⟨a1, a2⟩ := a
      obtain ⟨b1, b2⟩ := b
      simp only [lmin]
      split <;> split <;> first | rfl | (congr 2 <;> omega) | omega
theorem lmin_assoc (a b c : Option C) : lmin (lmin a b) c = lmin a (lmin b c) := by
  cases a with
  | none => rfl
  | some a => cases b with
    | none => rfl
    | some b => cases c with
      | none => rw [lmin_none, lmin_none]
      | some c =>
        obtain ⟨a1, a2⟩ := a
        obtain ⟨b1, b2⟩ := b
        obtain ⟨c1, c2⟩ := c
        by_cases h1 : a1 < b1 ∨ (a1 = b1 ∧ a2 ≤ b2) <;> by_cases h2 : b1 < c1 ∨ (b1 = c1 ∧ b2 ≤ c2) <;> by_cases h3 : a1 < c1 ∨ (a1 = c1 ∧ a2 ≤ c2) <;> simp [lmin, h1, h2, h3] <;> omega
theorem cmin_snoc (a b : C) (l : List C) : cmin a (l ++ [b]) = if clt b (cmin a l) = true then b else cmin a l := by
  unfold cmin
  rw [List.foldl_append]
  rfl
theorem oleast_snoc (l : List (Option C)) (x : Option C) : oleast (l ++ [x]) = lmin (oleast l) x := by
  unfold oleast
  rw [List.filterMap_append]
  cases x with
  | none => simp [lmin_none]
  | some b =>
    cases l.filterMap id with
    | nil => rfl
    | cons a r =>
      simp only [List.filterMap_cons, id, List.filterMap_nil, List.cons_append, cmin_snoc, lmin, clt, decide_eq_true_eq]
      split <;> split <;> first | rfl | omega
theorem oleast_take {l : List (Option C)} {k : Nat} {x : Option C} (h : l[k]? = some x) : oleast (l.take (k + 1)) = lmin (oleast (l.take k)) x := by
  rw [List.take_add_one, h]
  exact oleast_snoc _ _
theorem some_cmin (r : List C) : ∀ a : C, some (cmin a r) = lmin (some a) (match r with
    | [] => none
    | b :: t => some (cmin b t)) := by
  induction r with
  | nil => intro a; exact (lmin_none _).symm
  | cons b r ih =>
    intro a
    have e : some (if clt b a = true then b else a) = lmin (some a) (some b) := by
      simp only [lmin, clt, decide_eq_true_eq]
      split <;> split <;> first | rfl | omega | (congr 1; apply Prod.ext <;> omega)
    show some (cmin (if clt b a = true then b else a) r) = lmin (some a) (some (cmin b r))
    rw [ih, e, lmin_assoc, ← ih]
theorem oleast_cons (l : List (Option C)) (x : Option C) : oleast (x :: l) = lmin x (oleast l) := by
  unfold oleast
  cases x with
  | none => rfl
  | some a =>
    simp only [List.filterMap_cons, id]
    exact some_cmin _ a
theorem oleast_rev (l : List (Option C)) : oleast l.reverse = oleast l := by
  induction l with
  | nil => rfl
  | cons x l ih => rw [List.reverse_cons, oleast_snoc, oleast_cons, ih, lmin_comm]
end Nl
set_option Elab.async false
set_option linter.all false
set_option maxRecDepth 100000
set_option maxHeartbeats 1000000
namespace Nl
open PySem L2 Pd
def stE (S : D) (l : List (Option C)) (b a : Option C) (x5 x6 x7 x8 : Option D) : Pd.Env := [some S, some (.lst (l.map oD)), none, some (oD b), some (oD a), x5, x6, x7, x8, none]
theorem cutD_to (l : List D) (k : Nat) : cutD l none (some ((k : Int) + 1)) = l.take (k + 1) := by
  unfold cutD
  have e : HT.sIx l.length l.length (some ((k : Int) + 1)) = min (k + 1) l.length := by
    have := HT.sIx_nat l.length l.length (k + 1)
    simpa using this
  rw [e, HT.sIx_none]
  simp [List.take_eq_take_iff]
theorem slD_lst (l : List D) (lo hi : Option Int) : slD (.lst l) lo hi = some (.lst (cutD l lo hi)) := rfl
theorem slD_fz (l : List D) (lo hi : Option Int) : slD (.fz l) lo hi = some (.lst (cutD l lo hi)) := rfl
theorem road0 (k : Nat) : callD 1 1 g_road_cost [.tup [.int 0, .int 1, .non, .int k]] = .ok .non := rfl
theorem road1 (a b l w : Int) : callD 1 1 g_road_cost [.tup [.int a, .int b, .int l, .int w]] = .ok (.tup [.int l, .int 1]) := rfl
theorem is_non : callD 2 2 g__law_is [.non, .non] = .ok (.bl true) := rfl
theorem turn (S : D) (l : List (Option C)) (hl : l.length ≤ 60) (i : Nat) (x : Option C) (hx : l[i]? = some x) (a : Option C) (x5 x6 x7 x8 : Option D) :
    ∃ y5 y6 y7 y8, bd_law_1 (stE S l (oleast (l.take i)) a (some (.int i)) (some (oD x)) x7 x8) = .nx (stE S l (oleast (l.take (i + 1))) x y5 y6 y7 y8) := by
  have h1 := ev__law_least (oleast (l.take i)) x
  rw [← oleast_take hx] at h1
  have h2 : callD 1 2 g_least [.lst ((l.map oD).take (i + 1))] = .ok (oD (oleast (l.take (i + 1)))) := by
    rw [← List.map_take]
    exact ev_least _ (by rw [List.length_take]; exact Nat.le_trans (Nat.min_le_right _ _) (Nat.le_trans hl (by decide)))
  have h3 := ev__law_is (oleast (l.take (i + 1)))
  have a1 := ev_added a x
  have a2 := ev__law_added a x
  have a3 := ev__law_is (oadd a x)
  have n1 : callD 2 2 g_added [oD x, .non] = .ok .non := by
    have := ev_added x none
    cases x <;> exact this
  have n2 : callD 2 2 g_added [.non, oD x] = .ok .non := by
    have := ev_added none x
    cases x <;> exact this
  have b1 := ev_added x x
  have b2 := ev__law_added x x
  have b3 := ev__law_is (oadd x x)
  cases x with
  | none => simp [bd_law_1, stE, h1, h2, h3, a1, a2, a3, n1, n2, b1, b2, b3, is_non, cutD_to, slD_lst, road0, isNon_o]
  | some c =>
    have c1 : callD 2 2 g__law_is [.tup [.int c.1, .int 1], .tup [.int c.1, .int 1]] = .ok (.bl true) := ev__law_is (some (c.1, 1))
    have c2 : ixD (oD (some c)) (.int 0) = some (.int c.1) := rfl
    have c3 : ixD (oD (some c)) (.int 1) = some (.int c.2) := rfl
    simp [bd_law_1, stE, h1, h2, h3, a1, a2, a3, n1, n2, b1, b2, b3, is_non, cutD_to, slD_lst, road0, road1, isNon_o, c1, c2, c3]
theorem bits_big {ns : List Int} (hb : Bits ns) : True := trivial
theorem law_true (ns : List Int) (hl : ns.length ≤ 63) (hb : Bits ns) : callD 1 10 g_law [.fz (ns.map D.int)] = .ok (.bl true) := by
  obtain ⟨l, h1, _, h2⟩ := fLc_ex (fi := (fItm (fSl (fVar 0) oNo (oSome (fC (.int 60)))))) (tg := tgName 2) (fe := (fCall (callD 1 2 g__law_cost) [] (fCons (f2 modD (fVar 2) (f2 powD (fC (.int 10)) (fC (.int 64)))) fNil))) (vs := [2]) (ρ := [some (.fz (ns.map D.int)), none, none, none, none, none, none, none, none, none]) D.int oD (ns.take 60) (fun _ _ => True) (by
        have := cutD_to (ns.map D.int) 59
        simp at this
        simp [slD_fz, this]) (by rw [List.length_take]; exact Nat.le_trans (Nat.min_le_left _ _) (by decide)) (fun z hz => by
        obtain ⟨a, ha⟩ := ev__law_cost (z % 10 ^ 64) (Int.emod_nonneg _ (by decide)) (Int.emod_lt_of_pos _ (by decide))
        refine ⟨_, a, rfl, ?_, trivial⟩
        simp
        exact ha)
  rw [List.length_take] at h1
  have h1 : l.length ≤ 60 := by omega
  have h2 : c_law_1 [some (.fz (ns.map D.int)), none, none, none, none, none, none, none, none, none] = .ok (.lst (l.map oD)) := h2
  rw [cd_law]
  generalize hS : D.fz (ns.map D.int) = S at *
  have f1 : callD 1 2 g_least [.lst []] = .ok .non := rfl
  have f2 : callD 1 2 g_least [.lst [.non]] = .ok .non := rfl
  have f3 : callD 2 2 g_added [.non, .non] = .ok .non := rfl
  have loop : ∃ a y5 y6 y7 y8, l_law_1 (stE S l none (some (0, 0)) none none none none) = .nx (stE S l (oleast l) a y5 y6 y7 y8) := by
    obtain ⟨ρ', e1, a, y5, y6, y7, y8, e2⟩ := forD_all (h := (tgTup 2 (tgCons (tgName 5) (tgCons (tgName 6) tgNil)))) (body := bd_law_1) (enumD 0 (l.map oD)) (fun i ρ => ∃ a y5 y6 y7 y8, ρ = stE S l (oleast (l.take i)) a y5 y6 y7 y8) (stE S l none (some (0, 0)) none none none none) ⟨_, _, _, _, _, rfl⟩ (by
      rintro i d ρ hd ⟨a, y5, y6, y7, y8, rfl⟩
      obtain ⟨e, h3, rfl⟩ := enum_get hd
      obtain ⟨x, h4, rfl⟩ := map_get h3
      obtain ⟨z5, z6, z7, z8, h5⟩ := turn S l h1 i x h4 a y5 y6 y7 y8
      exact ⟨_, _, rfl, h5, x, z5, z6, z7, z8, rfl⟩)
    refine ⟨a, y5, y6, y7, y8, ?_⟩
    unfold l_law_1
    rw [sFor_ok (e_fEnum (xs := l.map oD) rfl), e1, e2]
    rw [List.take_of_length_le (by rw [enumD_len, List.length_map]; exact Nat.le_refl _)]
  obtain ⟨a, y5, y6, y7, y8, loop⟩ := loop
  have g1 : callD 1 2 g_least [.lst (l.map oD).reverse] = .ok (oD (oleast l)) := by
    rw [← List.map_reverse, ev_least _ (by rw [List.length_reverse]; exact Nat.le_trans h1 (by decide)), oleast_rev]
  have g2 : callD 1 2 g_least [.lst (l.map oD)] = .ok (oD (oleast l)) := ev_least _ (Nat.le_trans h1 (by decide))
  have g3 := ev__law_is (oleast l)
  have g4 : eqD (.lst (l.map oD)) (.lst (l.map oD)) = some true := eq_refl (by
    simp only [shal]
    rw [shals_all, List.all_map, List.all_eq_true]
    exact fun x _ => shal_o x 10)
  have loop' : l_law_1 [some S, some (.lst (l.map oD)), none, some .non, some (.tup [.int 0, .int 0]), none, none, none, none, none] = .nx (stE S l (oleast l) a y5 y6 y7 y8) := loop
  simp [g_law, h2, f1, f2, f3, is_non, loop']
  simp [stE, g1, g2, g3, g4]
end Nl
set_option Elab.async false
set_option linter.all false
set_option maxRecDepth 100000
set_option maxHeartbeats 4000000
namespace Nl
open PySem PySem.Spec PyProof.Rows L2 Pd
def dd (x : Str) (i : Nat) : He.DefD := ⟨(x, none), x, x, defArgs (topS i), defBody (topS i), defScope (topS i), [], []⟩
def fnl : List He.DefD := [dd "added" 1, dd "least" 2, dd "road_cost" 3, dd "_law_cost" 5, dd "_law_is" 6, dd "_law_added" 7, dd "_law_least" 8, dd "law" 9]
def fal : List He.Fa := [.glo "added", .glo "least", .glo "road_cost", .glo "_law_cost", .glo "_law_is", .glo "_law_added", .glo "_law_least", .glo "law", .free "len", .free "list", .free "sum", .free "all", .free "any", .free "max", .free "min", .free "range", .free "enumerate", .free "zip", .free "reversed", .free "isinstance", .free "int", .free "bool", .free "tuple", .free "str", .free "dict", .free "set", .free "sorted", .free "ValueError"]
abbrev RR : PySem.W.OpenRow := PySem.W.OpenLaw.row PySem.Challenge.rw_nodeladder_k02_costs_together
abbrev hk : PySem.W.Hook := He.hookD 4 fal fnl
def ob (s : PySem.W.SharedT) : He.AlD := He.obsDG 4 fal fnl (HandSHeadRun.getT s)
theorem ob_eq (s : PySem.W.SharedT) : ob s = hk.obs s.abs := He.obsDG_eq (HandSHeadRun.getT_eq s)
def loose : List Str := ["added", "least", "road_cost", "_law_cost", "_law_is", "_law_added", "_law_least"]
theorem run (w : World) : HandSHeadRun.RunEq RR (PySem.W.view RR.prog [9]) hk ob 4000 loose w := by
  intro os
  kernel_rfl
theorem tab_of {K : PySem.W.Frag} {h : Heap} {mg : Str → Option Value} (X : K.In h) (G : h.Ns mainGlobals mg) (c : He.SaysD fal fnl K) : Tab K mg where
  bi := ⟨He.free_ok X G (c.fact 8 (f := .free "len") rfl), He.free_ok X G (c.fact 9 (f := .free "list") rfl), He.free_ok X G (c.fact 10 (f := .free "sum") rfl), He.free_ok X G (c.fact 11 (f := .free "all") rfl), He.free_ok X G (c.fact 12 (f := .free "any") rfl), He.free_ok X G (c.fact 13 (f := .free "max") rfl), He.free_ok X G (c.fact 14 (f := .free "min") rfl), He.free_ok X G (c.fact 15 (f := .free "range") rfl), He.free_ok X G (c.fact 16 (f := .free "enumerate") rfl), He.free_ok X G (c.fact 17 (f := .free "zip") rfl), He.free_ok X G (c.fact 18 (f := .free "reversed") rfl), He.free_ok X G (c.fact 19 (f := .free "isinstance") rfl), He.free_ok X G (c.fact 20 (f := .free "int") rfl), He.free_ok X G (c.fact 21 (f := .free "bool") rfl), He.free_ok X G (c.fact 22 (f := .free "tuple") rfl), He.free_ok X G (c.fact 23 (f := .free "str") rfl), He.free_ok X G (c.fact 24 (f := .free "dict") rfl), He.free_ok X G (c.fact 25 (f := .free "set") rfl), He.free_ok X G (c.fact 26 (f := .free "sorted") rfl), He.free_ok X G (c.fact 27 (f := .free "ValueError") rfl)⟩
  added := let ⟨fd, F⟩ := c.def_ 0 (d := dd "added" 1) rfl; ⟨_, fd, F, He.glo_ok X G (c.fact 0 (f := .glo "added") rfl)⟩
  least := let ⟨fd, F⟩ := c.def_ 1 (d := dd "least" 2) rfl; ⟨_, fd, F, He.glo_ok X G (c.fact 1 (f := .glo "least") rfl)⟩
  road_cost := let ⟨fd, F⟩ := c.def_ 2 (d := dd "road_cost" 3) rfl; ⟨_, fd, F, He.glo_ok X G (c.fact 2 (f := .glo "road_cost") rfl)⟩
  _law_cost := let ⟨fd, F⟩ := c.def_ 3 (d := dd "_law_cost" 5) rfl; ⟨_, fd, F, He.glo_ok X G (c.fact 3 (f := .glo "_law_cost") rfl)⟩
  _law_is := let ⟨fd, F⟩ := c.def_ 4 (d := dd "_law_is" 6) rfl; ⟨_, fd, F, He.glo_ok X G (c.fact 4 (f := .glo "_law_is") rfl)⟩
  _law_added := let ⟨fd, F⟩ := c.def_ 5 (d := dd "_law_added" 7) rfl; ⟨_, fd, F, He.glo_ok X G (c.fact 5 (f := .glo "_law_added") rfl)⟩
  _law_least := let ⟨fd, F⟩ := c.def_ 6 (d := dd "_law_least" 8) rfl; ⟨_, fd, F, He.glo_ok X G (c.fact 6 (f := .glo "_law_least") rfl)⟩
  law := let ⟨fd, F⟩ := c.def_ 7 (d := dd "law" 9) rfl; ⟨_, fd, F, He.glo_ok X G (c.fact 7 (f := .glo "law") rfl)⟩
theorem facts (hlaw : ∀ ns : List Int, ns.length ≤ 63 → Bits ns → callD 1 10 g_law [.fz (ns.map D.int)] = .ok (.bl true)) {P : Program} {w : World} {K : PySem.W.Frag} {h : Heap} {mg : Str → Option Value} {f : Addr} (X : K.In h) (G : h.Ns mainGlobals mg) (hfa : mg ("law" : Str) = some (.ref f)) (c : He.SaysD fal fnl K) :
    ∃ fd : FuncData, (∀ (s : Shared) (v : Value), BindsTo s fd ⟨[v], []⟩ [("_law_script", v)]) ∧ ∀ base : Heap, K.In base → base.Ns mainGlobals mg → FnOk P w K mg base CX0 2 f fd ["_law_script"] (spLaw K) := by
  have T := tab_of X G c
  obtain ⟨f', fd, F, hm⟩ := T.law
  have e := hfa.symm.trans hm
  cases e
  have b := FunD.bindsA (ps := ["_law_script"]) F fun _ _ _ _ _ _ us hl => match us, hl with | [_], _ => rfl
  exact ⟨fd, fun s v => b s [v] rfl, fun base _ _ => law_ok rfl (fk_law T F) hlaw⟩
end Nl
open PySem PySem.W PySem.Calls PyProof.Rows
set_option maxRecDepth 100000 in
set_option maxHeartbeats 0 in
theorem PySem.Challenge.cw_nodeladder_k02_costs_together_holds : PySem.Challenge.rw_nodeladder_k02_costs_together.Holds := by
  w_on; o_law
  refine HandSHeadRun.head_any (r := (PySem.W.OpenLaw.row PySem.Challenge.rw_nodeladder_k02_costs_together)) (q := view (PySem.W.OpenLaw.row PySem.Challenge.rw_nodeladder_k02_costs_together).prog [9]) (H := Nl.hk) (ob := Nl.ob) (M := 4000) (loose := Nl.loose) (d := HandSHeadRun.topDef (PySem.W.OpenLaw.row PySem.Challenge.rw_nodeladder_k02_costs_together).prog 9) (kwd := []) Nl.ob_eq
    (by kernel_rfl) (fun s => by kernel_rfl) Nl.run (by kernel_rfl) (by kernel_rfl) (by kernel_rfl) (by rfl) (by first | assumption | decide +kernel) (by decide +kernel) ⟨rfl, rfl, rfl, rfl, rfl, by decide +kernel⟩ ?hw ?hc
  case hw => w_witness2
  case hc =>
    refine Pd.walk_ofEB (l := PySem.Challenge.rw_nodeladder_k02_costs_together) (n := 63) (k := 2) (x := "_law_script") rfl (by decide) (by decide) (by kernel_rfl) ⟨rfl, by decide, by decide⟩ ?F
    intro w mg fa h Y G hmg0
    obtain ⟨K, KX, c⟩ := Y
    have hmg : mg ("law" : PySem.Str) = some (.ref fa) := by
      have e : (HandSHeadRun.topDef (PySem.W.OpenLaw.row PySem.Challenge.rw_nodeladder_k02_costs_together).prog 9).name = ("law" : PySem.Str) := by kernel_rfl
      rw [← e]
      exact hmg0
    obtain ⟨fd, hb, hF⟩ := Nl.facts Nl.law_true (P := (PySem.Challenge.rw_nodeladder_k02_costs_together).prog) (w := w) KX G hmg c
    exact ⟨K, fd, KX, hb, hF⟩
