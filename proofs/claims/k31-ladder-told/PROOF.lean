import PyProof.Rows.All
import Wide.All
import OpenK.AllK
import Wide.FinOn
import HandS.ForMost
import HandS.ForExc
import HandS.Wide
import HandS.IsInst
import HandS.Deep
import HandS.TupLen
import KE.DataEq
import KE.DataCmp
import KE.DataMinMax
import KE.DataFind
import KE.DataAny
import KE.SortData
import HandS.Style
import PyProof.Rows.CallKwBuiltin
import HandS.Defaults
import HandS.HeadEnd
import HandS.Head0
import HandS.Head1
import HandS.Head2
import HandS.HeadHook1
import HandS.HeadHook2
import HandS.EndBits
import HandS.SetFor
import HandS.Small
import HandS.Rev
import HandS.RevTup
import HandS.Zip
import HandS.Conv
import HandS.Finally
import KE.KDictCopyH
import HandS.ExcOwn
import HandS.ExcIs
import HandS.HeadHook4
import HandS.HeadWalk
import HandS.RaiseMore
import HandS.MakeKw
import KE.KDictWalk
import HandS.SortRule
import HandS.SortInts
import KE.KDictSum
import PySem.Challenge.RW_nodeladder_k31_ladder_told
set_option Elab.async false
set_option linter.all false
set_option maxRecDepth 100000
set_option maxHeartbeats 4000000
namespace Pd
open PySem L2

/-! ### data -/
inductive D where
  | non | bl (b : Bool) | int (i : Int) | str (x : Str)
  | tup (xs : List D) | lst (xs : List D) | fz (xs : List D)
  | dK (ks : List Key) (vs : List D) | dT (ks : List (List Key)) (vs : List D)
  | ins (c : Str) (ns : List Str) (vs : List D)
  | exc (c : Str)
abbrev Env := List (Option D)
inductive R (α : Type) where
  | ok (a : α) | exc (x : Str) | no
@[inline] def R.bind {α β : Type} (r : R α) (k : α → R β) : R β := match r with
  | .ok a => k a | .exc x => .exc x | .no => .no
@[simp] theorem R.bind_ok {α β : Type} (a : α) (k : α → R β) : (R.ok a).bind k = k a := rfl
@[simp] theorem R.bind_exc {α β : Type} (x : Str) (k : α → R β) : (R.exc x).bind k = .exc x := rfl
@[simp] theorem R.bind_no {α β : Type} (k : α → R β) : (R.no).bind k = .no := rfl
inductive SR where
  | nx (ρ : Env) | bk (ρ : Env) | ct (ρ : Env) | rt (d : D) (ρ : Env) | ex (x : Str) (ρ : Env) | no
mutual
def imm : D → Bool
  | .tup xs => immAll xs
  | .lst _ => false
  | .fz xs => immAll xs
  | .dK _ _ => false
  | .dT _ _ => false
  | .ins _ _ _ => false
  | .non => true
  | .bl _ => true
  | .int _ => true
  | .str _ => true
  | .exc _ => true
def immAll : List D → Bool
  | [] => true
  | d :: ds => imm d && immAll ds
end
def kD : Key → D
  | .inl i => .int i
  | .inr x => .str x
def tkD (k : List Key) : D := .tup (k.map kD)
def keyOf : D → Option Key
  | .int i => some (.inl i)
  | .str x => some (.inr x)
  | _ => none
def keysOf : List D → Option (List Key)
  | [] => some []
  | d :: ds => match keyOf d, keysOf ds with
    | some k, some ks => some (k :: ks)
    | _, _ => none
def isMut : HO → Bool
  | .lst _ => true
  | .dK _ => true
  | .dT _ => true
  | .ins _ _ _ => true
  | _ => false
/-- the written part, and where the own classes stand -/
structure Md where
  K : PySem.W.Frag
  cm : Str → Option Addr
  lk : Addr → Prop
  /-- exceptions that a suite holds -/
  ex : Addr → Str → Prop
/-- an exception of the own class x -/
def ClX (cm : Md) (x : Str) (C : Addr) (dd : Option Addr) : Prop := cm.cm x = some C ∧ dd = none
/-- a dict, perhaps locked (while it is walked) -/
def Dk (cm : Md) (H : Hp) (a : Addr) (u : HO) : Prop := H a = some u ∨ (cm.lk a ∧ ∃ o, H a = some (.frz o u))
theorem Dk.rd {cm : Md} {H : Hp} {a : Addr} {u : HO} (h : Dk cm H a u) : Rd H a u := h.imp id fun ⟨_, o, e⟩ => ⟨o, e⟩
theorem Dk.ne {cm : Md} {H : Hp} {a : Addr} {u : HO} (h : Dk cm H a u) : H a ≠ none := by
  rcases h with h | ⟨_, o, h⟩ <;> rw [h] <;> exact Option.some_ne_none _
theorem Dk.mono {cm : Md} {H H' : Hp} {a : Addr} {u : HO} (h : Dk cm H a u) (k : ∀ o, H a = some o → H' a = some o) : Dk cm H' a u := h.imp (k _) fun ⟨l, o, e⟩ => ⟨l, o, k _ e⟩
theorem Dk.un {cm : Md} {H : Hp} {a : Addr} {u : HO} (h : Dk cm H a u) (n : ¬ cm.lk a) : H a = some u := h.resolve_right fun z => n z.1
/-- a list that nobody writes -/
def FzL (K : PySem.W.Frag) (H : Hp) (a : Addr) (vs : List V) : Prop := (∃ o, H a = some (.frz o (.lst vs))) ∨ ∀ H', SqL K H' a vs
theorem FzL.sq {K : PySem.W.Frag} {H : Hp} {a : Addr} {vs : List V} (h : FzL K H a vs) : SqL K H a vs := h.elim (fun ⟨o, e⟩ => .inl (.inr ⟨o, e⟩)) fun e => e H

/-! ### how data lie in the heap; the last list: the objects that may be written, each once -/
mutual
inductive Rp (cm : Md) (H : Hp) : V → D → List Addr → Prop
  | non : Rp cm H .non .non []
  | bl (b : Bool) : Rp cm H (.bl b) (.bl b) []
  | int (i : Int) : Rp cm H (.int i) (.int i) []
  | str (x : Str) : Rp cm H (.str x) (.str x) []
  | tup {a : Addr} {vs : List V} {ds : List D} {F : List Addr} : H a = some (.tup vs) → Rps cm H vs ds F → Rp cm H (.ref a) (.tup ds) F
  | lst {a : Addr} {vs : List V} {ds : List D} {F : List Addr} : H a = some (.lst vs) → Rps cm H vs ds F → Rp cm H (.ref a) (.lst ds) (a :: F)
  | frz {a : Addr} {vs : List V} {ds : List D} {F : List Addr} : FzL cm.K H a vs → Rps cm H vs ds F → Rp cm H (.ref a) (.fz ds) F
  | dK {a : Addr} {kvs : List (Key × V)} {ks : List Key} {ds : List D} {F : List Addr} : Dk cm H a (.dK kvs) → ks = kvs.map (·.1) → Rps cm H (kvs.map (·.2)) ds F → Rp cm H (.ref a) (.dK ks ds) (a :: F)
  | dT {a : Addr} {kvs : List (List Key × V)} {ks : List (List Key)} {ds : List D} {F : List Addr} : Dk cm H a (.dT kvs) → ks = kvs.map (·.1) → Rps cm H (kvs.map (·.2)) ds F → Rp cm H (.ref a) (.dT ks ds) (a :: F)
  | ins {a C dx : Addr} {fs : List (Str × V)} {c : Str} {ns : List Str} {ds : List D} {F : List Addr} : H a = some (.ins C dx fs) → cm.cm c = some C → ns = fs.map (·.1) → Rps cm H (fs.map (·.2)) ds F → Rp cm H (.ref a) (.ins c ns ds) (a :: F)
  | exc {a : Addr} {x : Str} : cm.ex a x → Rp cm H (.ref a) (.exc x) []
inductive Rps (cm : Md) (H : Hp) : List V → List D → List Addr → Prop
  | nil : Rps cm H [] [] []
  | cons {v : V} {vs : List V} {d : D} {ds : List D} {F G : List Addr} : Rp cm H v d F → Rps cm H vs ds G → Rps cm H (v :: vs) (d :: ds) (F ++ G)
end
section
variable {cm : Md} {H H' : Hp}
mutual
theorem Rp.trk {v : V} {d : D} {F : List Addr} : Rp cm H v d F → ∀ a ∈ F, H a ≠ none
  | .non, a, h => nomatch h
  | .bl _, a, h => nomatch h
  | .int _, a, h => nomatch h
  | .str _, a, h => nomatch h
  | .tup _ r, a, h => Rps.trk r a h
  | .lst e r, a, h => (List.mem_cons.mp h).elim (fun z => by rw [z, e]; exact Option.some_ne_none _) fun z => Rps.trk r a z
  | .frz e r, a, h => Rps.trk r a h
  | .dK e _ r, a, h => (List.mem_cons.mp h).elim (fun z => by rw [z]; exact e.ne) fun z => Rps.trk r a z
  | .dT e _ r, a, h => (List.mem_cons.mp h).elim (fun z => by rw [z]; exact e.ne) fun z => Rps.trk r a z
  | .ins e _ _ r, a, h => (List.mem_cons.mp h).elim (fun z => by rw [z, e]; exact Option.some_ne_none _) fun z => Rps.trk r a z
  | .exc _, a, h => nomatch h
theorem Rps.trk {vs : List V} {ds : List D} {F : List Addr} : Rps cm H vs ds F → ∀ a ∈ F, H a ≠ none
  | .nil, a, h => nomatch h
  | .cons r s, a, h => (List.mem_append.mp h).elim (fun z => Rp.trk r a z) fun z => Rps.trk s a z
end
mutual
theorem Rp.mono {v : V} {d : D} {F : List Addr} : Rp cm H v d F → (∀ b o, H b = some o → (b ∈ F ∨ isMut o = false) → H' b = some o) → Rp cm H' v d F
  | .non, k => .non
  | .bl _, k => .bl _
  | .int _, k => .int _
  | .str _, k => .str _
  | .tup e r, k => .tup (k _ _ e (.inr rfl)) (Rps.mono r k)
  | .lst e r, k => .lst (k _ _ e (.inl List.mem_cons_self)) (Rps.mono r fun b o q z => k b o q (z.imp (List.mem_cons_of_mem _) id))
  | .frz e r, k => .frz (e.imp (fun ⟨o, e⟩ => ⟨o, k _ _ e (.inr rfl)⟩) id) (Rps.mono r k)
  | .dK e h r, k => .dK (e.mono fun o q => k _ o q (.inl List.mem_cons_self)) h (Rps.mono r fun b o q z => k b o q (z.imp (List.mem_cons_of_mem _) id))
  | .dT e h r, k => .dT (e.mono fun o q => k _ o q (.inl List.mem_cons_self)) h (Rps.mono r fun b o q z => k b o q (z.imp (List.mem_cons_of_mem _) id))
  | .ins e h h' r, k => .ins (k _ _ e (.inl List.mem_cons_self)) h h' (Rps.mono r fun b o q z => k b o q (z.imp (List.mem_cons_of_mem _) id))
  | .exc e, k => .exc e
theorem Rps.mono {vs : List V} {ds : List D} {F : List Addr} : Rps cm H vs ds F → (∀ b o, H b = some o → (b ∈ F ∨ isMut o = false) → H' b = some o) → Rps cm H' vs ds F
  | .nil, k => .nil
  | .cons r s, k => .cons (Rp.mono r fun b o q z => k b o q (z.imp (List.mem_append_left _) id)) (Rps.mono s fun b o q z => k b o q (z.imp (List.mem_append_right _) id))
end
theorem Rp.same {v : V} {d : D} {F : List Addr} (r : Rp cm H v d F) (s : Same H H') : Rp cm H' v d F := r.mono fun b o e _ => s b o e
theorem Rps.same {v : List V} {d : List D} {F : List Addr} (r : Rps cm H v d F) (s : Same H H') : Rps cm H' v d F := r.mono fun b o e _ => s b o e
mutual
theorem Rp.imm {v : V} {d : D} {F : List Addr} : Rp cm H v d F → Pd.imm d = true → F = []
  | .non, _ => rfl
  | .bl _, _ => rfl
  | .int _, _ => rfl
  | .str _, _ => rfl
  | .tup _ r, h => Rps.imm r (by simpa [Pd.imm] using h)
  | .lst _ _, h => by simp [Pd.imm] at h
  | .frz _ r, h => Rps.imm r (by simpa [Pd.imm] using h)
  | .dK _ _ _, h => by simp [Pd.imm] at h
  | .dT _ _ _, h => by simp [Pd.imm] at h
  | .ins _ _ _ _, h => by simp [Pd.imm] at h
  | .exc _, _ => rfl
theorem Rps.imm {vs : List V} {ds : List D} {F : List Addr} : Rps cm H vs ds F → Pd.immAll ds = true → F = []
  | .nil, _ => rfl
  | .cons r s, h => by
    simp only [Pd.immAll, Bool.and_eq_true] at h
    rw [Rp.imm r h.1, Rps.imm s h.2]
    rfl
end
theorem Rps.length {vs : List V} {ds : List D} {F : List Addr} (r : Rps cm H vs ds F) : vs.length = ds.length := by
  induction ds generalizing vs F with
  | nil => cases r; rfl
  | cons d ds ih => cases r with | cons r s => simp [ih s]
theorem Rps.get {vs : List V} {ds : List D} {F : List Addr} (r : Rps cm H vs ds F) : ∀ {i : Nat} {d : D}, ds[i]? = some d → ∃ v G, vs[i]? = some v ∧ Rp cm H v d G ∧ G.Sublist F := by
  induction ds generalizing vs F with
  | nil => intro i d h; simp at h
  | cons e ds ih =>
    intro i d h
    cases r with
    | cons r s =>
      cases i with
      | zero => simp at h; subst h; exact ⟨_, _, rfl, r, List.sublist_append_left _ _⟩
      | succ i =>
        obtain ⟨v, G, h1, h2, h3⟩ := ih s (i := i) (d := d) (by simpa using h)
        exact ⟨v, G, by simpa using h1, h2, h3.trans (List.sublist_append_right _ _)⟩
theorem Rps.getV {vs : List V} {ds : List D} {F : List Addr} (r : Rps cm H vs ds F) {i : Nat} {v : V} (h : vs[i]? = some v) : ∃ d G, ds[i]? = some d ∧ Rp cm H v d G ∧ G.Sublist F := by
  have hl := r.length
  have hi : i < ds.length := by
    have := (List.getElem?_eq_some_iff.mp h).1
    omega
  obtain ⟨v', G, h1, h2, h3⟩ := r.get (List.getElem?_eq_getElem hi)
  rw [h] at h1
  cases h1
  exact ⟨_, G, List.getElem?_eq_getElem hi, h2, h3⟩
theorem Rps.append {vs vs' : List V} {ds ds' : List D} {F G : List Addr} (r : Rps cm H vs ds F) (s : Rps cm H vs' ds' G) : Rps cm H (vs ++ vs') (ds ++ ds') (F ++ G) := by
  induction ds generalizing vs F with
  | nil => cases r; exact s
  | cons d ds ih =>
    cases r with
    | cons r1 r2 =>
      have q := Rps.cons r1 (ih r2)
      simpa [List.append_assoc] using q
theorem Rps.one {v : V} {d : D} {F : List Addr} (r : Rp cm H v d F) : Rps cm H [v] [d] F := by
  have := Rps.cons r .nil
  simpa using this
theorem Rps.split {vs : List V} {ds ds' : List D} {F : List Addr} (r : Rps cm H vs (ds ++ ds') F) : ∃ v1 v2 F1 F2, vs = v1 ++ v2 ∧ F = F1 ++ F2 ∧ Rps cm H v1 ds F1 ∧ Rps cm H v2 ds' F2 := by
  induction ds generalizing vs F with
  | nil => exact ⟨[], vs, [], F, rfl, rfl, .nil, r⟩
  | cons d ds ih =>
    cases r with
    | cons r1 r2 =>
      obtain ⟨v1, v2, F1, F2, e1, e2, h1, h2⟩ := ih r2
      subst e1 e2
      exact ⟨_ :: v1, v2, _ ++ F1, F2, rfl, by simp, .cons r1 h1, h2⟩
theorem Rps.takeDrop {vs : List V} {ds : List D} {F : List Addr} (r : Rps cm H vs ds F) (n : Nat) : ∃ F1 F2, F = F1 ++ F2 ∧ Rps cm H (vs.take n) (ds.take n) F1 ∧ Rps cm H (vs.drop n) (ds.drop n) F2 := by
  have hl := r.length
  rw [show ds = ds.take n ++ ds.drop n from (List.take_append_drop n ds).symm] at r
  obtain ⟨v1, v2, F1, F2, e1, e2, h1, h2⟩ := r.split
  have l1 := h1.length
  have a1 : v1 = vs.take n := by
    subst e1
    rw [List.length_take] at l1
    rw [List.take_append]
    rw [List.length_append] at hl
    by_cases hn : n ≤ ds.length
    · rw [show min n ds.length = n by omega] at l1
      rw [← l1, List.take_length]; simp
    · have l2 := h2.length
      rw [List.length_drop] at l2
      have : v2 = [] := List.eq_nil_of_length_eq_zero (by omega)
      subst this
      rw [List.take_of_length_le (by omega)]; simp
  have a2 : v2 = vs.drop n := by
    have e : vs.take n ++ vs.drop n = vs.take n ++ v2 := by rw [List.take_append_drop, ← a1]; exact e1
    exact (List.append_cancel_left e).symm
  subst a1 a2
  exact ⟨F1, F2, e2, h1, h2⟩
end

/-! ### the frame: which slots own what they hold -/
inductive Kd where
  | z | m | r | l
  deriving DecidableEq
def Kd.still : Kd → Bool
  | .z => true
  | .l => true
  | _ => false
inductive Q where
  | b | z | n (S : List Nat)
structure Cfg where
  cm : Md
  kd : Nat → Kd
  A : Addr → Prop
  H0 : Hp
  io : Addr → Prop
  W : WX
  fr : Bool
  /-- values that stay in their names -/
  pin : Nat → Option V
def Cfg.B (c : Cfg) (a : Addr) : Prop := c.A a ∨ c.H0 a = none
abbrev Ow := Nat → List Addr
def SOk (c : Cfg) (own : Ow) (i : Nat) (v : V) (F : List Addr) : Prop := match c.kd i with
  | .z => ∀ a ∈ F, c.B a ∧ ∀ j, a ∉ own j
  | .l => (∀ a ∈ F, c.B a ∧ ∀ j, a ∉ own j) ∧ c.pin i = some v
  | .m => F.Nodup ∧ F = own i ∧ ∀ u, c.pin i = some u → v = u
  | .r => ∃ a F', v = .ref a ∧ F = a :: F' ∧ own i = [a] ∧ ∀ b ∈ F', c.B b ∧ ∀ j, b ∉ own j
structure Gd (c : Cfg) (σ : St) (H : Hp) (ρ : Env) (own : Ow) : Prop where
  len : ρ.length = σ.length
  base : ∀ b o, c.H0 b = some o → ¬ c.io b → H b = some o
  dom : ∀ b, c.H0 b ≠ none → H b ≠ none
  ownB : ∀ i a, a ∈ own i → c.B a
  ownN : ∀ i a, a ∈ own i → c.H0 a = none ∨ c.io a
  ownM : ∀ i a, a ∈ own i → ∃ o, H a = some o ∧ isMut o = true
  disj : ∀ i j a, a ∈ own i → a ∈ own j → i = j
  zer : ∀ i, i < ρ.length → (c.kd i).still = true → own i = []
  sp : ∃ N, ρ.length ≤ N ∧ ∀ i, N ≤ i → own i = []
  lk : ∀ a, c.cm.lk a → H a ≠ none ∧ ∀ j, a ∉ own j
  slot : ∀ i d, ρ[i]? = some (some d) → ∃ v F, σ[i]? = some (some v) ∧ Rp c.cm H v d F ∧ SOk c own i v F
def QOk (c : Cfg) (q : Q) (H : Hp) (own : Ow) (F : List Addr) : Prop := match q with
  | .b => ∀ a ∈ F, c.B a
  | .z => ∀ a ∈ F, c.B a ∧ ∀ j, a ∉ own j
  | .n S => F.Nodup ∧ ∀ a ∈ F, H a = none ∨ ∃ i ∈ S, a ∈ own i
structure Ext (H : Hp) (own : Ow) (H' : Hp) (own' : Ow) : Prop where
  keep : ∀ b o, H b = some o → (∀ j, b ∉ own j) → H' b = some o
  out : ∀ b, H b ≠ none → (∀ j, b ∉ own j) → ∀ j, b ∉ own' j
  dom : ∀ b, H b ≠ none → H' b ≠ none
section
variable {c : Cfg} {σ : St} {H H' H1 H2 : Hp} {ρ : Env} {own own' own1 own2 : Ow} {F G FF : List Addr} {q : Q}
theorem Same.dom (s : Same H H') : ∀ b, H b ≠ none → H' b ≠ none := fun b h e => by
  cases q : H b with
  | none => exact h q
  | some o => rw [s b o q] at e; cases e
theorem Same.new (s : Same H H') {a : Addr} (h : H' a = none) : H a = none := s.free h
theorem Ext.refl : Ext H own H own := ⟨fun _ _ h _ => h, fun _ _ h => h, fun _ h => h⟩
theorem Ext.trans (a : Ext H own H1 own1) (b : Ext H1 own1 H2 own2) : Ext H own H2 own2 :=
  ⟨fun x o h n => b.keep x o (a.keep x o h n) (a.out x (by rw [h]; exact Option.some_ne_none _) n), fun x h n => b.out x (a.dom x h) (a.out x h n), fun x h => b.dom x (a.dom x h)⟩
theorem Ext.ofSame (s : Same H H') : Ext H own H' own := ⟨fun b o h _ => s b o h, fun _ _ h => h, Same.dom s⟩
theorem Gd.new (g : Gd c σ H ρ own) {a : Addr} (h : H a = none) : c.H0 a = none := by
  cases q : c.H0 a with
  | none => rfl
  | some o => exact absurd h (g.dom a (by rw [q]; exact Option.some_ne_none _))
theorem Gd.newLk (g : Gd c σ H ρ own) {a : Addr} (h : H a = none) : ¬ c.cm.lk a := fun z => (g.lk a z).1 h
theorem Gd.ownLk (g : Gd c σ H ρ own) {j : Nat} {a : Addr} (h : a ∈ own j) : ¬ c.cm.lk a := fun z => (g.lk a z).2 j h
theorem Gd.newB (g : Gd c σ H ρ own) {a : Addr} (h : H a = none) : c.B a := .inr (g.new h)
theorem Gd.newOwn (g : Gd c σ H ρ own) {a : Addr} (h : H a = none) : ∀ j, a ∉ own j := fun j z => by
  obtain ⟨o, e, _⟩ := g.ownM j a z
  rw [h] at e; cases e
theorem Gd.same (g : Gd c σ H ρ own) (s : Same H H') : Gd c σ H' ρ own where
  len := g.len
  base := fun b o h n => s b o (g.base b o h n)
  dom := fun b h => Same.dom s b (g.dom b h)
  ownB := g.ownB
  ownN := g.ownN
  ownM := fun i a h => let ⟨o, e, m⟩ := g.ownM i a h; ⟨o, s a o e, m⟩
  disj := g.disj
  zer := g.zer
  sp := g.sp
  lk := fun a h => ⟨Same.dom s a (g.lk a h).1, (g.lk a h).2⟩
  slot := fun i d h => let ⟨v, F, h1, h2, h3⟩ := g.slot i d h; ⟨v, F, h1, h2.same s, h3⟩
theorem Rp.ext {v : V} {d : D} (g : Gd c σ H ρ own) (r : Rp c.cm H v d F) (x : Ext H own H' own') (hz : ∀ a ∈ F, ∀ j, a ∉ own j) : Rp c.cm H' v d F :=
  r.mono fun b o e z => x.keep b o e fun j hj => by
    rcases z with z | z
    · exact hz b z j hj
    · obtain ⟨o', e', m⟩ := g.ownM j b hj
      rw [e] at e'; cases e'; rw [z] at m; cases m
theorem Rps.ext {v : List V} {d : List D} (g : Gd c σ H ρ own) (r : Rps c.cm H v d F) (x : Ext H own H' own') (hz : ∀ a ∈ F, ∀ j, a ∉ own j) : Rps c.cm H' v d F :=
  r.mono fun b o e z => x.keep b o e fun j hj => by
    rcases z with z | z
    · exact hz b z j hj
    · obtain ⟨o', e', m⟩ := g.ownM j b hj
      rw [e] at e'; cases e'; rw [z] at m; cases m
theorem QOk.new (s : Same H H1) (h : QOk c q H1 own F) : QOk c q H own F := by
  cases q with
  | b => exact h
  | z => exact h
  | n S => exact ⟨h.1, fun a ha => (h.2 a ha).imp (fun z => s.free z) id⟩
theorem QOk.b (g : Gd c σ H ρ own) (h : QOk c q H own F) : QOk c .b H own F := by
  cases q with
  | b => exact h
  | z => exact fun a ha => (h a ha).1
  | n S => exact fun a ha => (h.2 a ha).elim (fun z => g.newB z) fun ⟨i, _, z⟩ => g.ownB i a z
theorem QOk.z_of_n (g : Gd c σ H ρ own) (h : QOk c (.n []) H own F) : QOk c .z H own F := fun a ha => by
  rcases h.2 a ha with z | ⟨i, hi, _⟩
  · exact ⟨g.newB z, g.newOwn z⟩
  · cases hi
theorem QOk.nil : QOk c q H own [] := by
  cases q with
  | b => exact fun _ h => nomatch h
  | z => exact fun _ h => nomatch h
  | n S => exact ⟨List.nodup_nil, fun _ h => nomatch h⟩
/-- FF is made of F and of new objects -/
structure Der (H : Hp) (F FF : List Addr) : Prop where
  sub : ∀ a ∈ FF, a ∈ F ∨ H a = none
  nd : F.Nodup → (∀ a ∈ F, H a ≠ none) → FF.Nodup
theorem Der.nil : Der H F [] := ⟨(fun _ h => nomatch h), fun _ _ => List.nodup_nil⟩
theorem Der.refl : Der H F F := ⟨fun _ h => .inl h, fun h _ => h⟩
theorem Der.sublist (h : FF.Sublist F) : Der H F FF := ⟨fun _ z => .inl (h.subset z), fun n _ => h.nodup n⟩
theorem Der.cons {p : Addr} (hp : H p = none) (h : G.Sublist F) : Der H F (p :: G) := ⟨fun a z => (List.mem_cons.mp z).elim (fun e => .inr (by rw [e]; exact hp)) fun e => .inl (h.subset e), fun n t =>
  List.nodup_cons.mpr ⟨fun z => t p (h.subset z) hp, h.nodup n⟩⟩
theorem QOk.der (g : Gd c σ H ρ own) (s : Same H H1) (h : QOk c q H own F) (t : ∀ a ∈ F, H1 a ≠ none) (d : Der H1 F FF) : QOk c q H own FF := by
  cases q with
  | b => exact fun a ha => (d.sub a ha).elim (h a) fun z => g.newB (s.free z)
  | z => exact fun a ha => (d.sub a ha).elim (h a) fun z => ⟨g.newB (s.free z), g.newOwn (s.free z)⟩
  | n S => exact ⟨d.nd h.1 t, fun a ha => (d.sub a ha).elim (h.2 a) fun z => .inl (s.free z)⟩
/-- the join of two qualities -/
inductive Qj : Q → Q → Q → Prop
  | b {q q' : Q} : Qj q q' .b
  | z : Qj .z .z .z
  | zn : Qj .z (.n []) .z
  | nz : Qj (.n []) .z .z
  | n {S T : List Nat} : (∀ i ∈ S, i ∉ T) → Qj (.n S) (.n T) (.n (S ++ T))
theorem Qj.n0 : Qj (.n []) (.n []) (.n []) := .n (fun _ h => nomatch h)
theorem QOk.join {q1 q2 : Q} (j : Qj q1 q2 q) (g : Gd c σ H ρ own) (s : Same H H1) (h1 : QOk c q1 H own F) (t1 : ∀ a ∈ F, H1 a ≠ none) (h2 : QOk c q2 H1 own G) : QOk c q H own (F ++ G) := by
  have h2' := h2.new s
  cases j with
  | b => exact fun a ha => (List.mem_append.mp ha).elim (h1.b g a) (h2'.b g a)
  | z => exact fun a ha => (List.mem_append.mp ha).elim (h1 a) (h2' a)
  | zn => exact fun a ha => (List.mem_append.mp ha).elim (h1 a) (h2'.z_of_n g a)
  | nz => exact fun a ha => (List.mem_append.mp ha).elim (h1.z_of_n g a) (h2' a)
  | @n S T hST =>
    refine ⟨List.nodup_append.mpr ⟨h1.1, h2.1, fun a ha b hb e => ?_⟩, fun a ha => (List.mem_append.mp ha).elim (fun z => (h1.2 a z).imp id fun ⟨i, hi, z⟩ => ⟨i, List.mem_append_left _ hi, z⟩)
      fun z => (h2'.2 a z).imp id fun ⟨i, hi, z⟩ => ⟨i, List.mem_append_right _ hi, z⟩⟩
    subst e
    rcases h2.2 a hb with z | ⟨i, hi, z⟩
    · exact t1 a ha z
    · rcases h1.2 a ha with z' | ⟨j, hj, z'⟩
      · exact g.newOwn z' i z
      · exact hST j hj (by rw [g.disj j i a z' z]; exact hi)
end

/-! ### the readings -/
def outR {α β : Type} (c : Cfg) (q : Q) (σ : St) (H : Hp) (own : Ow) (Rel : Hp → β → α → List Addr → Prop) (r : R α) (Q : β → Hp → Prop) : Prop := match r with
  | .ok d => ∀ v H' F, Same H H' → Rel H' v d F → QOk c q H own F → Q v H'
  | .exc x => ∀ C dd H', ClX c.cm x C dd → Same H H' → c.W (.ref C) dd σ H'
  | .no => False
def RelB : Hp → Bool → Bool → List Addr → Prop := fun _ v d F => v = d ∧ F = []
def rd (c : Cfg) (q : Q) (f : Env → R D) : TE := fun σ H P => ∃ ρ own, Gd c σ H ρ own ∧ outR c q σ H own (Rp c.cm) (f ρ) P
def rdL (c : Cfg) (q : Q) (f : Env → R (List D)) : TA := fun σ H P => ∃ ρ own, Gd c σ H ρ own ∧ outR c q σ H own (Rps c.cm) (f ρ) P
def rdT (c : Cfg) (f : Env → R Bool) : TT := fun σ H P => ∃ ρ own, Gd c σ H ρ own ∧ outR c .b σ H own RelB (f ρ) P
def RQ (c : Cfg) (own : Ow) (F : List Addr) : Prop := if c.fr = true then F.Nodup ∧ (∀ a ∈ F, c.H0 a = none) ∧ ∀ i, c.pin i ≠ none → ∀ a ∈ F, a ∉ own i else ∀ a ∈ F, c.B a
def outS (c : Cfg) (H : Hp) (own : Ow) (r : SR) (Dn : Ends) : Prop := match r with
  | .nx ρ' => ∀ σ' H' own', Gd c σ' H' ρ' own' → Ext H own H' own' → Dn.nx σ' H'
  | .bk ρ' => ∀ σ' H' own', Gd c σ' H' ρ' own' → Ext H own H' own' → Dn.bk σ' H'
  | .ct ρ' => ∀ σ' H' own', Gd c σ' H' ρ' own' → Ext H own H' own' → Dn.ct σ' H'
  | .rt d ρ' => ∀ v σ' H' own' F, Gd c σ' H' ρ' own' → Ext H own H' own' → Rp c.cm H' v d F → RQ c own' F → Dn.rt v H'
  | .ex x ρ' => ∀ C dd σ' H' own', ClX c.cm x C dd → Gd c σ' H' ρ' own' → Ext H own H' own' → c.W (.ref C) dd σ' H'
  | .no => False
def rdS (c : Cfg) (g : Env → SR) : TS := fun Dn σ H => ∃ ρ own, Gd c σ H ρ own ∧ outS c H own (g ρ) Dn
abbrev DE (X : Cx) (c : Cfg) (q : Q) (e : Expr) (f : Env → R D) : Prop := PE X e (rd c q f)
abbrev DA (X : Cx) (c : Cfg) (q : Q) (es : List Expr) (f : Env → R (List D)) : Prop := PA X es (rdL c q f)
abbrev DT (X : Cx) (c : Cfg) (e : Expr) (f : Env → R Bool) : Prop := PT X e (rdT c f)
abbrev DS (X : Cx) (c : Cfg) (st : Stmt) (g : Env → SR) : Prop := PS X st (rdS c g)
abbrev DSs (X : Cx) (c : Cfg) (st : List Stmt) (g : Env → SR) : Prop := PSs X st (rdS c g)
section
variable {X : Cx} {e : Expr} {es : List Expr} {st : Stmt} {sts : List Stmt} {te te' : TE} {ta ta' : TA} {tt tt' : TT} {ts ts' : TS}
theorem PE.imp (h : PE X e te) (k : ∀ σ H Q, te' σ H Q → te σ H Q) : PE X e te' := ⟨fun pins s σ H Q I z => h.run pins s σ H Q I (k _ _ _ z)⟩
theorem PA.imp (h : PA X es ta) (k : ∀ σ H Q, ta' σ H Q → ta σ H Q) : PA X es ta' := ⟨fun pos pins s σ H Q I z => h.run pos pins s σ H Q I (k _ _ _ z)⟩
theorem PT.imp (h : PT X e tt) (k : ∀ σ H Q, tt' σ H Q → tt σ H Q) : PT X e tt' := ⟨fun pins s σ H Q I z => h.run pins s σ H Q I (k _ _ _ z)⟩
theorem PS.imp (h : PS X st ts) (k : ∀ D σ H, ts' D σ H → ts D σ H) : PS X st ts' := ⟨fun pins s σ H D I z => h.run pins s σ H D I (k _ _ _ z)⟩
theorem PSs.imp (h : PSs X sts ts) (k : ∀ D σ H, ts' D σ H → ts D σ H) : PSs X sts ts' := ⟨fun pins s σ H D I z => h.run pins s σ H D I (k _ _ _ z)⟩
end
section
variable {c : Cfg} {q q1 q2 : Q} {σ : St} {H H1 : Hp} {ρ : Env} {own : Ow} {α β α' β' : Type} {Rel : Hp → β → α → List Addr → Prop} {Rel' : Hp → β' → α' → List Addr → Prop}
/-- one part, then the rest -/
theorem outR.bind {r : R α} {k : α → R α'} {P : β' → Hp → Prop} {P1 : β → Hp → Prop} (h : outR c q σ H own Rel' (r.bind k) P)
    (n : ∀ d v H1 F, r = .ok d → Same H H1 → Rel H1 v d F → QOk c q1 H own F → outR c q σ H own Rel' (k d) P → P1 v H1) : outR c q1 σ H own Rel r P1 := by
  cases r with
  | ok d => exact fun v H' F s r' o => n d v H' F rfl s r' o h
  | exc x => exact h
  | no => exact h
theorem outR.imp {r : R α} {P P' : β → Hp → Prop} (h : outR c q σ H own Rel r P) (k : ∀ v H', P v H' → P' v H') : outR c q σ H own Rel r P' := by
  cases r with
  | ok d => exact fun v H' F s r' o => k v H' (h v H' F s r' o)
  | exc x => exact h
  | no => exact h
theorem outR.later {r : R α} {P : β → Hp → Prop} (s : Same H H1) (h : outR c q σ H own Rel r P) : outR c q σ H1 own Rel r P := by
  cases r with
  | ok d => exact fun v H' F s' r' o => h v H' F (s.trans s') r' (o.new s)
  | exc x => exact fun C dd H' e s' => h C dd H' e (s.trans s')
  | no => exact h
end
end Pd
set_option Elab.async false
set_option linter.all false
set_option maxRecDepth 100000
set_option maxHeartbeats 4000000
namespace Pd
open PySem L2
/-! ### plain data -/
mutual
def toP : D → PyData
  | .tup xs => .tuple (toPs xs)
  | .lst xs => .list (toPs xs)
  | .fz _ => .none
  | .bl b => .bool b
  | .int i => .int i
  | .str x => .str x
  | .non => .none
  | .dK _ _ => .none
  | .dT _ _ => .none
  | .ins _ _ _ => .none
  | .exc _ => .none
def toPs : List D → List PyData
  | [] => []
  | d :: ds => toP d :: toPs ds
end
mutual
/-- plain, of nesting at most n -/
def shal : D → Nat → Bool
  | .tup xs, n => match n with
    | 0 => false
    | n + 1 => shals xs n
  | .lst xs, n => match n with
    | 0 => false
    | n + 1 => shals xs n
  | .fz _, _ => false
  | .bl _, _ => true
  | .int _, _ => true
  | .str _, _ => true
  | .non, _ => true
  | .dK _ _, _ => false
  | .dT _ _, _ => false
  | .ins _ _ _, _ => false
  | .exc _, _ => false
def shals : List D → Nat → Bool
  | [], _ => true
  | d :: ds, n => shal d n && shals ds n
end
theorem toPs_map : ∀ ds : List D, toPs ds = ds.map toP
  | [] => rfl
  | d :: ds => by rw [toPs, toPs_map ds]; rfl
theorem shals_all {n : Nat} : ∀ ds : List D, shals ds n = ds.all (shal · n)
  | [] => rfl
  | d :: ds => by rw [shals, shals_all ds]; rfl
mutual
theorem shal_ok : ∀ (d : D) (n : Nat), shal d n = true → (toP d).plain = true ∧ (toP d).depth ≤ n
  | .tup xs, n, h => by
    cases n with
    | zero => simp [shal] at h
    | succ n =>
      have := shals_ok xs n (by simpa [shal] using h)
      simp only [toP, PyData.plain, PyData.depth]
      exact ⟨this.1, Nat.succ_le_succ this.2⟩
  | .lst xs, n, h => by
    cases n with
    | zero => simp [shal] at h
    | succ n =>
      have := shals_ok xs n (by simpa [shal] using h)
      simp only [toP, PyData.plain, PyData.depth]
      exact ⟨this.1, Nat.succ_le_succ this.2⟩
  | .bl _, _, _ => by simp [toP, PyData.plain, PyData.depth]
  | .int _, _, _ => by simp [toP, PyData.plain, PyData.depth]
  | .str _, _, _ => by simp [toP, PyData.plain, PyData.depth]
  | .non, _, _ => by simp [toP, PyData.plain, PyData.depth]
  | .fz _, _, h => by simp [shal] at h
  | .dK _ _, _, h => by simp [shal] at h
  | .dT _ _, _, h => by simp [shal] at h
  | .ins _ _ _, _, h => by simp [shal] at h
  | .exc _, _, h => by simp [shal] at h
theorem shals_ok : ∀ (ds : List D) (n : Nat), shals ds n = true → PyData.plainAll (toPs ds) = true ∧ PyData.depthAll (toPs ds) ≤ n
  | [], _, _ => by simp [toPs, PyData.plainAll, PyData.depthAll]
  | d :: ds, n, h => by
    simp only [shals, Bool.and_eq_true] at h
    have h1 := shal_ok d n h.1
    have h2 := shals_ok ds n h.2
    simp only [toPs, PyData.plainAll, PyData.depthAll, Bool.and_eq_true]
    exact ⟨⟨h1.1, h2.1⟩, Nat.max_le.mpr ⟨h1.2, h2.2⟩⟩
end
mutual
theorem toP_inj : ∀ (d e : D) (n : Nat), shal d n = true → shal e n = true → toP d = toP e → d = e
  | .tup xs, e, n, h, h', q => by
    cases n with
    | zero => simp [shal] at h
    | succ n =>
    cases e <;> simp [toP] at q
    case tup ys => rw [toPs_inj xs ys n (by simpa [shal] using h) (by simpa [shal] using h') q]
  | .lst xs, e, n, h, h', q => by
    cases n with
    | zero => simp [shal] at h
    | succ n =>
    cases e <;> simp [toP] at q
    case lst ys => rw [toPs_inj xs ys n (by simpa [shal] using h) (by simpa [shal] using h') q]
  | .bl b, e, n, h, h', q => by cases e <;> simp [toP] at q; rw [q]
  | .int b, e, n, h, h', q => by cases e <;> simp [toP] at q; rw [q]
  | .str b, e, n, h, h', q => by cases e <;> simp [toP] at q; rw [q]
  | .non, e, n, h, h', q => by cases e <;> simp [toP, shal] at q h' ⊢
  | .fz _, _, _, h, _, _ => by simp [shal] at h
  | .dK _ _, _, _, h, _, _ => by simp [shal] at h
  | .dT _ _, _, _, h, _, _ => by simp [shal] at h
  | .ins _ _ _, _, _, h, _, _ => by simp [shal] at h
  | .exc _, _, _, h, _, _ => by simp [shal] at h
theorem toPs_inj : ∀ (d e : List D) (n : Nat), shals d n = true → shals e n = true → toPs d = toPs e → d = e
  | [], [], _, _, _, _ => rfl
  | [], e :: es, _, _, _, q => by simp [toPs] at q
  | d :: ds, [], _, _, _, q => by simp [toPs] at q
  | d :: ds, e :: es, n, h, h', q => by
    simp only [toPs, List.cons.injEq] at q
    simp only [shals, Bool.and_eq_true] at h h'
    rw [toP_inj d e n h.1 h'.1 q.1, toPs_inj ds es n h.2 h'.2 q.2]
end
section
variable {cm : Md} {H : Hp} {K : PySem.W.Frag}
mutual
theorem Rp.dp {n : Nat} {v : V} {d : D} {F : List Addr} : Rp cm H v d F → shal d n = true → Dp K H v (toP d)
  | .non, _ => by rw [toP]; exact .non
  | .bl _, _ => by rw [toP]; exact .bl _
  | .int _, _ => by rw [toP]; exact .int _
  | .str _, _ => by rw [toP]; exact .str _
  | .tup e r, h => by
    cases n with
    | zero => simp [shal] at h
    | succ n => rw [toP]; exact .tup (.of e) (Rps.dp r (by simpa [shal] using h))
  | .lst e r, h => by
    cases n with
    | zero => simp [shal] at h
    | succ n => rw [toP]; exact .lst (.of e) (Rps.dp r (by simpa [shal] using h))
  | .frz _ _, h => by simp [shal] at h
  | .dK _ _ _, h => by simp [shal] at h
  | .dT _ _ _, h => by simp [shal] at h
  | .ins _ _ _ _, h => by simp [shal] at h
  | .exc _, h => by simp [shal] at h
theorem Rps.dp {n : Nat} {v : List V} {d : List D} {F : List Addr} : Rps cm H v d F → shals d n = true → DpAll K H v (toPs d)
  | .nil, _ => by rw [toPs]; exact .nil
  | .cons r s, h => by
    simp only [shals, Bool.and_eq_true] at h
    rw [toPs]
    exact .cons (Rp.dp r h.1) (Rps.dp s h.2)
end
/-- the items of what is walked or asked by its places: a list, a tuple -/
def itm : D → Option (List D)
  | .lst xs => some xs
  | .fz xs => some xs
  | .tup xs => some xs
  | _ => none
theorem Rp.listed {v : V} {ds : List D} {F : List Addr} (r : Rp cm H v (.lst ds) F) : ∃ a vs G, v = .ref a ∧ H a = some (.lst vs) ∧ F = a :: G ∧ Rps cm H vs ds G := by
  cases r with
  | lst e r => exact ⟨_, _, _, rfl, e, rfl, r⟩
theorem Rp.seq {v : V} {d : D} {ds : List D} {F : List Addr} (r : Rp cm H v d F) (h : itm d = some ds) : ∃ a vs G, v = .ref a ∧ (SqL cm.K H a vs ∨ SqT cm.K H a vs) ∧ G.Sublist F ∧ Rps cm H vs ds G := by
  cases r with
  | lst e r => cases h; exact ⟨_, _, _, rfl, .inl (.of e), List.sublist_cons_self _ _, r⟩
  | frz e r => cases h; exact ⟨_, _, _, rfl, .inl e.sq, List.Sublist.refl _, r⟩
  | tup e r => cases h; exact ⟨_, _, _, rfl, .inr (.of e), List.Sublist.refl _, r⟩
  | _ => cases h
theorem Rp.tupled {v : V} {ds : List D} {F : List Addr} (r : Rp cm H v (.tup ds) F) : ∃ a vs, v = .ref a ∧ SqT K H a vs ∧ Rps cm H vs ds F := by
  cases r with
  | tup e r => exact ⟨_, _, rfl, .of e, r⟩
end
theorem DGet.kR {H : Hp} {a : Addr} {kvs : List (Key × V)} {k : Key} (e : Rd H a (.dK kvs)) : DGet H a (kV k) (valV kvs k) := .inl ⟨kvs, k, e, rfl, rfl⟩
theorem DGet.tR {H : Hp} {a b : Addr} {kvs : List (List Key × V)} {k : List Key} (e : Rd H a (.dT kvs)) (eb : H b = some (.tup (k.map kV))) : DGet H a (.ref b) (valV kvs k) := .inr ⟨kvs, k, b, e, rfl, eb, rfl⟩
/-! ### operators by their values -/
def resD (c : Cfg) (H : Hp) (F : List Addr) (r : Option D) (P : VK) : Prop := match r with
  | some d => ∀ v H' G, Same H H' → Rp c.cm H' v d G → Der H F G → P v H'
  | none => False
abbrev rOp (c : Cfg) (s : D → D → Option D) : R2 := fun x y H P => ∃ d e F G, Rp c.cm H x d F ∧ Rp c.cm H y e G ∧ resD c H (F ++ G) (s d e) P
def OpD (X : Cx) (c : Cfg) (f : Value → Value → Sem Value) (s : D → D → Option D) : Prop := OpR X f (rOp c s)
abbrev rCm (c : Cfg) (s : D → D → Option Bool) : R2 := fun x y H P => ∃ d e F G, Rp c.cm H x d F ∧ Rp c.cm H y e G ∧ ∃ b, s d e = some b ∧ P (.bl b) H
def CmD (X : Cx) (c : Cfg) (op : CmpOp) (s : D → D → Option Bool) : Prop := OpR X (compareOp op) (rCm c s)
abbrev rMt (c : Cfg) (s : List D → Option D) : List V → Hp → VK → Prop := fun xs H P => ∃ ds F, Rps c.cm H xs ds F ∧ resD c H F (s ds) P
def CallD (X : Cx) (c : Cfg) (f : Value) (s : List D → Option D) : Prop := CallR X f (rMt c s)
def ofO {α : Type} : Option α → R α
  | some a => .ok a
  | none => .no
def f2 {α : Type} (s : D → D → Option α) (fa fb : Env → R D) : Env → R α := fun ρ => (fa ρ).bind fun d => (fb ρ).bind fun e => ofO (s d e)
def f1 {α : Type} (s : D → Option α) (fa : Env → R D) : Env → R α := fun ρ => (fa ρ).bind fun d => ofO (s d)
def fS (s : List D → Option D) (fa : Env → R (List D)) : Env → R D := fun ρ => (fa ρ).bind fun ds => ofO (s ds)
def fCons (fa : Env → R D) (fr : Env → R (List D)) : Env → R (List D) := fun ρ => (fa ρ).bind fun d => (fr ρ).bind fun ds => .ok (d :: ds)
def fNil : Env → R (List D) := fun _ => .ok []
def fVar (i : Nat) : Env → R D := fun ρ => match ρ[i]? with
  | some (some d) => .ok d
  | _ => .no
def fC (d : D) : Env → R D := fun _ => .ok d
def chk (d : D) : Option D := if imm d = true then some d else none
def fImm (f : Env → R D) : Env → R D := f1 chk f
def ofB : R Bool → R D
  | .ok b => .ok (.bl b)
  | .exc x => .exc x
  | .no => .no
def fB (f : Env → R Bool) : Env → R D := fun ρ => ofB (f ρ)
def toB : D → R Bool
  | .bl b => .ok b
  | _ => .no
section
variable {X : Cx} {c : Cfg} {q q1 q2 : Q} {a b e : Expr} {es : List Expr} {pos : Pos} {f fa fb : Env → R D} {fs : Env → R (List D)}
theorem de_weak_b (h : DE X c q e f) : DE X c .b e f := PE.imp h fun σ H P ⟨ρ, own, g, o⟩ => ⟨ρ, own, g, by
  revert o
  cases f ρ with
  | ok d => exact fun o v H' F s r k => o v H' F s r (k.b g)
  | exc x => exact id
  | no => exact id⟩
theorem de_zn (h : DE X c (.n []) e f) : DE X c .z e f := PE.imp h fun σ H P ⟨ρ, own, g, o⟩ => ⟨ρ, own, g, by
  revert o
  cases f ρ with
  | ok d => exact fun o v H' F s r k => o v H' F s r (k.z_of_n g)
  | exc x => exact id
  | no => exact id⟩
/-- a value in which nothing can be written is anybody's -/
theorem de_imm (h : DE X c .b e f) : DE X c q e (fImm f) := PE.imp h fun σ H P ⟨ρ, own, g, o⟩ => ⟨ρ, own, g, by
  refine outR.bind o fun d v H1 F hd s r k o' => ?_
  unfold chk at o'
  by_cases hi : imm d = true
  · rw [if_pos hi] at o'
    exact o' v H1 F s r (by rw [r.imm hi]; exact .nil)
  · rw [if_neg hi] at o'
    exact False.elim o'⟩
/-- the same, where the function tells such values alone -/
theorem de_immf (hf : ∀ ρ d, f ρ = .ok d → imm d = true) (h : DE X c .b e f) : DE X c q e f := PE.imp h fun σ H P ⟨ρ, own, g, o⟩ => ⟨ρ, own, g, by
  have k := hf ρ
  revert o k
  cases f ρ with
  | ok d => exact fun o k v H' F s r _ => o v H' F s r (by rw [r.imm (k d rfl)]; exact .nil)
  | exc x => exact fun o _ => o
  | no => exact fun o _ => o⟩
theorem de_var {i : Nat} {x : Str} (hN : X.N[i]? = some x) (hv : Vis X.env.scope x) (hd : (x == ("__debug__" : Str)) = false) (hcd : (x == ("__classdict__" : Str)) = false) (hq : match c.kd i with
    | .z => q = .z
    | .l => q = .z
    | .m => q = .n [i]
    | .r => q = .b) : DE X c q (.Name x pos) (fVar i) := PE.imp (pe_var hN hv hd hcd) fun σ H P ⟨ρ, own, g, o⟩ => by
  unfold fVar at o
  cases h : ρ[i]? with
  | none => rw [h] at o; exact False.elim o
  | some d =>
    cases d with
    | none => rw [h] at o; exact False.elim o
    | some d =>
      rw [h] at o
      obtain ⟨v, F, h1, h2, h3⟩ := g.slot i d h
      refine ⟨v, h1, o v H F (Same.refl H) h2 ?_⟩
      unfold SOk at h3
      revert hq h3
      cases c.kd i with
      | z => rintro rfl h3; exact h3
      | l => rintro rfl h3; exact h3.1
      | m => rintro rfl h3; exact ⟨h3.1, fun a ha => .inr ⟨i, List.mem_singleton.mpr rfl, by rw [← h3.2.1]; exact ha⟩⟩
      | r =>
        rintro rfl ⟨a, F', rfl, rfl, h4, h5⟩
        intro b hb
        rcases List.mem_cons.mp hb with rfl | hb
        · exact g.ownB i _ (by rw [h4]; exact List.mem_cons_self)
        · exact (h5 b hb).1
theorem de_c {x : V} {d : D} (h : PE X e (tC x)) (hr : ∀ H, Rp c.cm H x d []) : DE X c q e (fC d) := PE.imp h fun σ H P ⟨ρ, own, g, o⟩ => o x H [] (Same.refl H) (hr H) .nil
theorem de_int {i : Int} {j : Nat} : DE X c q (.Constant (.int i) j pos) (fC (.int i)) := de_c pe_int fun _ => .int i
theorem de_bl {i : Bool} {j : Nat} : DE X c q (.Constant (.bool i) j pos) (fC (.bl i)) := de_c pe_bl fun _ => .bl i
theorem de_non {j : Nat} : DE X c q (.Constant .none j pos) (fC .non) := de_c pe_non fun _ => .non
theorem de_str {i : Str} {j : Nat} : DE X c q (.Constant (.str i) j pos) (fC (.str i)) := de_c pe_str fun _ => .str i
theorem da_nil : DA X c q [] fNil := PA.imp pa_nil fun σ H P ⟨ρ, own, g, o⟩ => o [] H [] (Same.refl H) .nil .nil
theorem da_cons (j : Qj q1 q2 q) (ha : DE X c q1 e f) (hr : DA X c q2 es fs) (hs : starEach (e :: es) X.env = (false, eval e X.env) :: starEach es X.env) : DA X c q (e :: es) (fCons f fs) :=
  PA.imp (pa_cons ha hr hs) fun σ H P ⟨ρ, own, g, o⟩ => ⟨ρ, own, g, outR.bind o fun d v H1 F hd s1 r1 k1 o1 => ⟨ρ, own, g.same s1, outR.bind (o1.later s1) fun ds vs H2 G hds s2 r2 k2 o2 => by
    rw [hds] at o1
    exact o1 (v :: vs) H2 (F ++ G) (s1.trans s2) (.cons (r1.same s2) r2) (k1.join j g s1 r1.trk k2)⟩⟩
/-- f of two values -/
theorem de_op2 {op : Operator} {s : D → D → Option D} (ho : OpD X c (binaryOp op) s) (j : Qj q1 q2 q) (ha : DE X c q1 a fa) (hb : DE X c q2 b fb) : DE X c q (.BinOp a op b pos) (f2 s fa fb) :=
  PE.imp (pe_op ho ha hb) fun σ H P ⟨ρ, own, g, o⟩ => ⟨ρ, own, g, outR.bind o fun d v H1 F hd s1 r1 k1 o1 => ⟨ρ, own, g.same s1, outR.bind (o1.later s1) fun e u H2 G he s2 r2 k2 o2 => by
    rw [he] at o1
    have r1' := r1.same s2
    refine ⟨d, e, F, G, r1', r2, ?_⟩
    revert o1
    show outR c q σ H own (Rp c.cm) (ofO (s d e)) P → _
    cases s d e with
    | some r => exact fun o1 v' H3 FF s3 r3 dr => o1 v' H3 FF ((s1.trans s2).trans s3) r3 ((k1.join j g s1 r1.trk k2).der g (s1.trans s2) (fun a ha => (List.mem_append.mp ha).elim (r1'.trk a) (r2.trk a)) dr)
    | none => exact fun o1 => False.elim o1⟩⟩
end
end Pd
set_option Elab.async false
set_option linter.all false
set_option maxRecDepth 100000
set_option maxHeartbeats 4000000
namespace Pd
open PySem L2
open PySem.W (dataLt alike lt_data le_data gt_data ge_data minD AlikeAll min_list_default min_list_data)
open PySem.SeqAt (eq_plain ne_plain in_list_data notIn_list_data)
/-! ### what the operators tell -/
def SZ : Nat := 1000000
theorem SZ_le : SZ ≤ sizeLine := by rw [sizeLine_eq]; decide
def addD : D → D → Option D
  | .int i, .int j => some (.int (i + j))
  | .str x, .str y => if x.length + y.length ≤ SZ then some (.str (x ++ y)) else none
  | .lst xs, .lst ys => if xs.length + ys.length ≤ SZ then some (.lst (xs ++ ys)) else none
  | _, _ => none
def subD : D → D → Option D
  | .int i, .int j => some (.int (i - j))
  | _, _ => none
/-- the greatest divisor, the greatest factor -/
def BIGD : Int := 10000000000000000000000000000000000000000000000000000000000000000000000000000
@[irreducible] def BIG : Int := ((2 ^ 1100000 : Nat) : Int)
theorem BIG_eq : BIG = ((2 ^ 1100000 : Nat) : Int) := by unfold BIG; rfl
def repD (xs : List D) (k : Nat) : List D := (List.replicate k xs).flatten
def mulD : D → D → Option D
  | .int i, .int j => if -BIG < i ∧ i < BIG ∧ -BIG < j ∧ j < BIG then some (.int (i * j)) else none
  | .lst xs, .int k => if immAll xs = true ∧ 0 ≤ k ∧ k ≤ 1000000 ∧ xs.length * k.toNat ≤ SZ then some (.lst (repD xs k.toNat)) else none
  | _, _ => none
def divD : D → D → Option D
  | .int i, .int j => if 0 < j ∧ j < BIGD then some (.int (i / j)) else none
  | _, _ => none
def modD : D → D → Option D
  | .int i, .int j => if 0 < j then some (.int (i % j)) else none
  | _, _ => none
def powD : D → D → Option D
  | .int i, .int j => if 0 ≤ j ∧ j ≤ 1000 ∧ -1000000000000 < i ∧ i < 1000000000000 then some (.int (i ^ j.toNat)) else none
  | _, _ => none
def negD : D → Option D
  | .int i => some (.int (-i))
  | _ => none
theorem upd_newSame {H : Hp} {p : Addr} {o : HO} (h : H p = none) : Same H (upd H p o) := fun b u e => by rw [upd_ne (ne_of_none e h)]; exact e
section
variable {X : Cx} {c : Cfg}
theorem natAbs_big {i : Int} (h1 : -BIGD < i) (h2 : i < BIGD) : i.natAbs < 2 ^ 256 := by
  have : (BIGD : Int) ≤ 2 ^ 256 := by decide
  have h3 : (i.natAbs : Int) < 2 ^ 256 := by omega
  exact_mod_cast h3
theorem natAbs_BIG {i : Int} (h1 : -BIG < i) (h2 : i < BIG) : i.natAbs < 2 ^ 1100000 := by
  rw [BIG_eq] at h1 h2
  generalize (2 ^ 1100000 : Nat) = N at h1 h2 ⊢
  omega
theorem mul_BIG {i j : Int} (h1 : -BIG < i) (h2 : i < BIG) (h3 : -BIG < j) (h4 : j < BIG) : IntMulOk i j := by
  have b : ∀ x : Int, Builtin.Int.intBits x ≤ x.natAbs.log2 + 1 := fun x => by
    unfold Builtin.Int.intBits
    split <;> omega
  have k1 := b i
  have k2 := b j
  have l1 := PySem.Flt.log2_lt_of (by decide) (natAbs_BIG h1 h2)
  have l2 := PySem.Flt.log2_lt_of (by decide) (natAbs_BIG h3 h4)
  have e : bitsLine = 134217728 := by decide
  unfold IntMulOk
  intro z
  rw [Bool.and_eq_true] at z
  have z2 := z.2
  unfold Builtin.Int.intTooBig at z2
  have z3 := of_decide_eq_true z2
  rw [e] at z3
  omega
theorem op_mulB : OpR X (binaryOp .Mult) (rI (fun i j => -BIG < i ∧ i < BIG ∧ -BIG < j ∧ j < BIG) fun i j => .int (i * j)) := opI fun _ _ _ _ _ _ _ hc q => PyProof.Rows.mul_int q (mul_BIG hc.1 hc.2.1 hc.2.2.1 hc.2.2.2)
theorem opd_add : OpD X c (binaryOp .Add) addD := by
  intro pins s σ H x y v u P I rx ry h
  obtain ⟨d, e, F, G, r1, r2, h⟩ := h
  unfold addD at h
  split at h
  · cases r1; cases r2
    exact op_add pins s σ H _ _ v u P I rx ry ⟨_, _, rfl, rfl, h _ H [] (Same.refl H) (.int _) .nil⟩
  · cases r1; cases r2
    split at h
    · rename_i hl
      exact op_add_str pins s σ H _ _ v u P I rx ry ⟨_, _, rfl, rfl, Nat.le_trans hl SZ_le, h _ H [] (Same.refl H) (.str _) .nil⟩
    · exact False.elim h
  · obtain ⟨a, vs, F', rfl, ha, rfl, ra⟩ := r1.listed
    obtain ⟨b, ws, G', rfl, hb, rfl, rb⟩ := r2.listed
    split at h
    · rename_i hl
      rw [← ra.length, ← rb.length] at hl
      refine op_cat pins s σ H _ _ v u P I rx ry ⟨_, _, _, _, rfl, rfl, ha, hb, Nat.le_trans hl SZ_le, fun p hp => ?_⟩
      have sm := upd_newSame (o := .lst (vs ++ ws)) hp
      exact h _ _ (p :: (F' ++ G')) sm (.lst upd_same ((ra.same sm).append (rb.same sm))) (.cons hp ((List.sublist_cons_self _ _).append (List.sublist_cons_self _ _)))
    · exact False.elim h
  · exact False.elim h
theorem opd_sub : OpD X c (binaryOp .Sub) subD := by
  intro pins s σ H x y v u P I rx ry h
  obtain ⟨d, e, F, G, r1, r2, h⟩ := h
  unfold subD at h
  split at h
  · cases r1; cases r2
    exact op_sub pins s σ H _ _ v u P I rx ry ⟨_, _, rfl, rfl, h _ H [] (Same.refl H) (.int _) .nil⟩
  · exact False.elim h
theorem Rps.rep {cm : Md} {H : Hp} {vs : List V} {ds : List D} (r : Rps cm H vs ds []) : ∀ k : Nat, Rps cm H (List.replicate k vs).flatten (repD ds k) []
  | 0 => by simpa [repD] using Rps.nil
  | k + 1 => by
    have := r.append (Rps.rep r k)
    simpa [repD, List.replicate_succ] using this
theorem opd_mul : OpD X c (binaryOp .Mult) mulD := by
  intro pins s σ H x y v u P I rx ry h
  obtain ⟨d, e, F, G, r1, r2, h⟩ := h
  unfold mulD at h
  split at h
  · cases r1; cases r2
    split at h
    · rename_i hl
      exact op_mulB pins s σ H _ _ v u P I rx ry ⟨_, _, rfl, rfl, hl, h _ H [] (Same.refl H) (.int _) .nil⟩
    · exact False.elim h
  · obtain ⟨a, vs, F', rfl, ha, rfl, ra⟩ := r1.listed
    cases r2
    split at h
    · rename_i hl
      obtain ⟨hi, h0, h1, h2⟩ := hl
      have hF := ra.imm hi
      subst hF
      rw [← ra.length] at h2
      refine op_rep pins s σ H _ _ v u P I rx ry ⟨_, _, _, rfl, rfl, ha, by omega, by omega, Nat.le_trans h2 SZ_le, fun p hp => ?_⟩
      rename_i k
      have sm := upd_newSame (o := .lst (List.replicate k.toNat vs).flatten) hp
      exact h _ _ [p] sm (.lst upd_same ((ra.rep _).same sm)) (.cons hp (List.nil_sublist _))
    · exact False.elim h
  · exact False.elim h
theorem opd_div : OpD X c (binaryOp .FloorDiv) divD := by
  intro pins s σ H x y v u P I rx ry h
  obtain ⟨d, e, F, G, r1, r2, h⟩ := h
  unfold divD at h
  split at h
  · cases r1; cases r2
    split at h
    · rename_i hl
      exact op_fdivW pins s σ H _ _ v u P I rx ry ⟨_, _, rfl, rfl, wide_div hl.1 (natAbs_big (Int.lt_trans (by decide) hl.1) hl.2) (by decide) (by decide), h _ H [] (Same.refl H) (.int _) .nil⟩
    · exact False.elim h
  · exact False.elim h
theorem opd_mod : OpD X c (binaryOp .Mod) modD := by
  intro pins s σ H x y v u P I rx ry h
  obtain ⟨d, e, F, G, r1, r2, h⟩ := h
  unfold modD at h
  split at h
  · cases r1; cases r2
    split at h
    · rename_i hl
      exact op_mod pins s σ H _ _ v u P I rx ry ⟨_, _, rfl, rfl, hl, h _ H [] (Same.refl H) (.int _) .nil⟩
    · exact False.elim h
  · exact False.elim h
theorem opd_pow : OpD X c (binaryOp .Pow) powD := by
  intro pins s σ H x y v u P I rx ry h
  obtain ⟨d, e, F, G, r1, r2, h⟩ := h
  unfold powD at h
  split at h
  · cases r1; cases r2
    split at h
    · rename_i hl
      exact op_pow pins s σ H _ _ v u P I rx ry ⟨_, _, rfl, rfl, ⟨hl.1, by omega, by omega⟩, h _ H [] (Same.refl H) (.int _) .nil⟩
    · exact False.elim h
  · exact False.elim h
end
/-! ### comparisons -/
def eqD (d e : D) : Option Bool := if (shal d 12 && shal e 12) = true then some (PyData.eqv (toP d) (toP e)) else none
def neD (d e : D) : Option Bool := if (shal d 12 && shal e 12) = true then some (!PyData.eqv (toP d) (toP e)) else none
def isNon : D → Bool
  | .non => true
  | _ => false
def ltOk (d e : D) : Bool := shal d 12 && shal e 12 && alike (toP d) (toP e) && !isNon d
def ltD : D → D → Option Bool
  | .int i, .int j => some (decide (i < j))
  | d, e => if ltOk d e = true then some (dataLt (toP d) (toP e)) else none
def leD : D → D → Option Bool
  | .int i, .int j => some (decide (i ≤ j))
  | d, e => if ltOk d e = true then some (!dataLt (toP e) (toP d)) else none
def gtD : D → D → Option Bool
  | .int i, .int j => some (decide (j < i))
  | d, e => if ltOk d e = true then some (dataLt (toP e) (toP d)) else none
def geD : D → D → Option Bool
  | .int i, .int j => some (decide (j ≤ i))
  | d, e => if ltOk d e = true then some (!dataLt (toP d) (toP e)) else none
def isD : D → D → Option Bool
  | d, .non => some (isNon d)
  | .bl a, .bl b => some (a == b)
  | _, _ => none
def isnotD : D → D → Option Bool
  | d, .non => some (!isNon d)
  | .bl a, .bl b => some (a != b)
  | _, _ => none
def inD : D → D → Option Bool
  | d, .dK ks _ => match keyOf d with
    | some k => some (ks.any fun j => decide (j = k))
    | none => none
  | .tup ds, .dT ks _ => match keysOf ds with
    | some k => some (ks.any fun j => decide (j = k))
    | none => none
  | d, .lst ys => if (shal d 12 && shals ys 12) = true then some (ys.any fun y => PyData.eqv (toP y) (toP d)) else none
  | _, _ => none
def notinD (d e : D) : Option Bool := (inD d e).map fun b => !b
section
variable {X : Cx} {c : Cfg}
theorem shal_room {d : D} {n : Nat} (hu : X.A.units + 64 < cLine) (hn : n ≤ 12) (h : shal d n = true) (k : Nat) : X.A.units + 1 + min k (toP d).depth < cLine := by
  have := (shal_ok d n h).2
  have : min k (toP d).depth ≤ 12 := by omega
  omega
theorem cmd_eq (hu : X.A.units + 64 < cLine) : CmD X c .Eq eqD := by
  intro pins s σ H x y v u P I rx ry h
  obtain ⟨d, e, F, G, r1, r2, b, h, q⟩ := h
  unfold eqD at h
  split at h
  · rename_i hs
    rw [Bool.and_eq_true] at hs
    cases h
    obtain ⟨as, t1⟩ := Dp.reads I _ x v (r1.dp hs.1) rx
    obtain ⟨bs, t2⟩ := Dp.reads I _ y u (r2.dp hs.2) ry
    exact eq_plain t1 t2 (shal_ok _ _ hs.1).1 (shal_ok _ _ hs.2).1 (by have := shal_room hu (Nat.le_refl _) hs.2 (toP d).depth; omega) ⟨.bl _, H, I, rfl, q⟩
  · cases h
theorem cmd_ne (hu : X.A.units + 64 < cLine) : CmD X c .NotEq neD := by
  intro pins s σ H x y v u P I rx ry h
  obtain ⟨d, e, F, G, r1, r2, b, h, q⟩ := h
  unfold neD at h
  split at h
  · rename_i hs
    rw [Bool.and_eq_true] at hs
    cases h
    obtain ⟨as, t1⟩ := Dp.reads I _ x v (r1.dp hs.1) rx
    obtain ⟨bs, t2⟩ := Dp.reads I _ y u (r2.dp hs.2) ry
    exact ne_plain t1 t2 (shal_ok _ _ hs.1).1 (shal_ok _ _ hs.2).1 (by have := shal_room hu (Nat.le_refl _) hs.2 (toP d).depth; omega) ⟨.bl _, H, I, rfl, q⟩
  · cases h
theorem ltOk_ok {d e : D} (h : ltOk d e = true) : shal d 12 = true ∧ shal e 12 = true ∧ alike (toP d) (toP e) = true ∧ toP d ≠ .none := by
  simp only [ltOk, Bool.and_eq_true, Bool.not_eq_true'] at h
  obtain ⟨⟨⟨h1, h2⟩, h3⟩, h4⟩ := h
  refine ⟨h1, h2, h3, fun z => ?_⟩
  cases d <;> simp [toP, isNon, shal] at z h4 h1
theorem cmd_ord {op : CmpOp} {s : D → D → Option Bool} {fi : Int → Int → Bool} {fd : PyData → PyData → Bool} (hs : ∀ d e b, s d e = some b → (∃ i j, d = .int i ∧ e = .int j ∧ b = fi i j) ∨ (ltOk d e = true ∧ b = fd (toP d) (toP e)))
    (hi : OpR X (compareOp op) (rI0 fun i j => .bl (fi i j)))
    (hd : ∀ {s : Shared} {a b : Value} {da db : PyData} {as bs : List Addr} {Q E : Value → Shared → Prop}, Reads s.heap a da as → Reads s.heap b db bs → alike da db = true → da ≠ .none → X.A.units + min da.depth db.depth < cLine → Q (.bool (fd da db)) s →
      wpAny (model X.prog X.w) X.A (compareOp op a b) Q E s) (hu : X.A.units + 64 < cLine) : CmD X c op s := by
  intro pins s σ H x y v u P I rx ry h
  obtain ⟨d, e, F, G, r1, r2, b, h, q⟩ := h
  rcases hs d e b h with ⟨i, j, rfl, rfl, rfl⟩ | ⟨ho, rfl⟩
  · cases r1; cases r2
    exact hi pins s σ H _ _ v u P I rx ry ⟨_, _, rfl, rfl, q⟩
  · obtain ⟨h1, h2, h3, h4⟩ := ltOk_ok ho
    obtain ⟨as, t1⟩ := Dp.reads I _ x v (r1.dp h1) rx
    obtain ⟨bs, t2⟩ := Dp.reads I _ y u (r2.dp h2) ry
    exact hd t1 t2 h3 h4 (by have := shal_room hu (Nat.le_refl _) h2 (toP d).depth; omega) ⟨.bl _, H, I, rfl, q⟩
theorem cmd_lt (hu : X.A.units + 64 < cLine) : CmD X c .Lt ltD := cmd_ord (fi := fun i j => decide (i < j)) (fd := fun d e => dataLt d e) (fun d e b h => by
  unfold ltD at h
  split at h
  · cases h; exact .inl ⟨_, _, rfl, rfl, rfl⟩
  · split at h
    · cases h; exact .inr ⟨by assumption, rfl⟩
    · cases h) op_lt (fun a b c d e f => lt_data a b c d e f) hu
theorem cmd_le (hu : X.A.units + 64 < cLine) : CmD X c .LtE leD := cmd_ord (fi := fun i j => decide (i ≤ j)) (fd := fun d e => !dataLt e d) (fun d e b h => by
  unfold leD at h
  split at h
  · cases h; exact .inl ⟨_, _, rfl, rfl, rfl⟩
  · split at h
    · cases h; exact .inr ⟨by assumption, rfl⟩
    · cases h) op_le (fun a b c d e f => le_data a b c d e f) hu
theorem cmd_gt (hu : X.A.units + 64 < cLine) : CmD X c .Gt gtD := cmd_ord (fi := fun i j => decide (j < i)) (fd := fun d e => dataLt e d) (fun d e b h => by
  unfold gtD at h
  split at h
  · cases h; exact .inl ⟨_, _, rfl, rfl, rfl⟩
  · split at h
    · cases h; exact .inr ⟨by assumption, rfl⟩
    · cases h) op_gt (fun a b c d e f => gt_data a b c d e f) hu
theorem cmd_ge (hu : X.A.units + 64 < cLine) : CmD X c .GtE geD := cmd_ord (fi := fun i j => decide (j ≤ i)) (fd := fun d e => !dataLt d e) (fun d e b h => by
  unfold geD at h
  split at h
  · cases h; exact .inl ⟨_, _, rfl, rfl, rfl⟩
  · split at h
    · cases h; exact .inr ⟨by assumption, rfl⟩
    · cases h) op_ge (fun a b c d e f => ge_data a b c d e f) hu
theorem Rp.isNon {cm : Md} {H : Hp} {v : V} {d : D} {F : List Addr} (r : Rp cm H v d F) : decide (v = .non) = Pd.isNon d := by
  cases r <;> simp [Pd.isNon]
theorem cmd_is : CmD X c .Is isD := by
  intro pins s σ H x y v u P I rx ry h
  obtain ⟨d, e, F, G, r1, r2, b, h, q⟩ := h
  unfold isD at h
  split at h
  · cases h
    cases r2
    exact op_isN pins s σ H _ _ v u P I rx ry ⟨rfl, by rw [r1.isNon]; exact q⟩
  · cases h
    cases r1; cases r2; cases rx; cases ry
    exact PyProof.Rows.is_bool ⟨.bl _, H, I, rfl, q⟩
  · cases h
theorem cmd_isnot : CmD X c .IsNot isnotD := by
  intro pins s σ H x y v u P I rx ry h
  obtain ⟨d, e, F, G, r1, r2, b, h, q⟩ := h
  unfold isnotD at h
  split at h
  · cases h
    cases r2
    exact op_notN pins s σ H _ _ v u P I rx ry ⟨rfl, by rw [r1.isNon]; exact q⟩
  · cases h
    cases r1; cases r2; cases rx; cases ry
    exact PyProof.Rows.isnot_bool ⟨.bl _, H, I, rfl, q⟩
  · cases h
/-! ### keys -/
theorem Rp.key {cm : Md} {H : Hp} {v : V} {d : D} {F : List Addr} {k : Key} (r : Rp cm H v d F) (h : keyOf d = some k) : v = kV k := by
  cases r <;> cases h <;> rfl
theorem Rps.keys {cm : Md} {H : Hp} {vs : List V} {ds : List D} {F : List Addr} {k : List Key} (r : Rps cm H vs ds F) (h : keysOf ds = some k) : vs = k.map kV := by
  induction ds generalizing vs F k with
  | nil => cases r; cases h; rfl
  | cons d ds ih =>
    cases r with
    | cons r s =>
      unfold keysOf at h
      split at h
      · rename_i h1 h2
        cases h
        rw [r.key h1, ih s h2]
        rfl
      · cases h
theorem any_map_fst {κ : Type} [DecidableEq κ] (kvs : List (κ × V)) (k : κ) : ((kvs.map (·.1)).any fun j => decide (j = k)) = (valV kvs k).isSome := by
  rw [← valV_any, List.any_map]
  rfl
theorem in_dict {H : Hp} {x y : V} {d e : D} {F G : List Addr} {b : Bool} (r1 : Rp c.cm H x d F) (r2 : Rp c.cm H y e G) (h : inD d e = some b) (hl : ∀ ys, e ≠ .lst ys) : ∃ a o, y = .ref a ∧ DGet H a x o ∧ o.isSome = b := by
  unfold inD at h
  split at h
  · split at h
    · rename_i hk
      cases h
      cases r2 with
      | dK e1 e2 r =>
        subst e2
        rw [r1.key hk, any_map_fst]
        exact ⟨_, _, rfl, DGet.kR e1.rd, rfl⟩
    · cases h
  · split at h
    · rename_i hk
      cases h
      cases r2 with
      | dT e1 e2 r =>
        subst e2
        cases r1 with
        | tup e3 r3 =>
          rw [any_map_fst]
          rw [r3.keys hk] at e3
          exact ⟨_, _, rfl, DGet.tR e1.rd e3, rfl⟩
    · cases h
  · exact absurd rfl (hl _)
  · cases h
theorem cmd_in (hu : X.A.units + 64 < cLine) : CmD X c .In inD := by
  intro pins s σ H x y v u P I rx ry h
  obtain ⟨d, e, F, G, r1, r2, b, h, q⟩ := h
  by_cases hl : ∃ ys, e = .lst ys
  · obtain ⟨ys, rfl⟩ := hl
    have h' : (if (shal d 12 && shals ys 12) = true then some (ys.any fun y => PyData.eqv (toP y) (toP d)) else none) = some b := by
      unfold inD at h
      split at h <;> first | (rename_i z _; cases z; done) | (rename_i z; cases z; done) | exact h | skip
      all_goals first | exact h | (simp_all; done)
    split at h'
    · rename_i hs
      rw [Bool.and_eq_true] at hs
      cases h'
      have hs2 : shal (.lst ys) 13 = true := by simpa [shal] using hs.2
      obtain ⟨as, t1⟩ := Dp.reads I _ x v (r1.dp hs.1) rx
      obtain ⟨bs, t2⟩ := Dp.reads I _ y u (r2.dp hs2) ry
      rw [toP] at t2
      refine in_list_data t2 t1 (shals_ok ys 12 hs.2).1 (shal_ok _ _ hs.1).1 (shal_room hu (Nat.le_refl _) hs.1 _) ⟨.bl _, H, I, rfl, ?_⟩
      rw [toPs_map, List.any_map]
      exact q
    · cases h'
  · obtain ⟨a, o, rfl, g, rfl⟩ := in_dict r1 r2 h fun ys z => hl ⟨ys, z⟩
    cases ry
    exact d_in (by omega) I g rx fun s' I' => ⟨.bl _, H, I', rfl, q⟩
theorem cmd_notin (hu : X.A.units + 64 < cLine) : CmD X c .NotIn notinD := by
  intro pins s σ H x y v u P I rx ry h
  obtain ⟨d, e, F, G, r1, r2, b, h, q⟩ := h
  unfold notinD at h
  obtain ⟨b', hin, rfl⟩ := Option.map_eq_some_iff.mp h
  clear h
  have h := hin
  clear hin
  by_cases hl : ∃ ys, e = .lst ys
  · obtain ⟨ys, rfl⟩ := hl
    have h' : (if (shal d 12 && shals ys 12) = true then some (ys.any fun y => PyData.eqv (toP y) (toP d)) else none) = some b' := by
      unfold inD at h
      split at h <;> first | (rename_i z _; cases z; done) | (rename_i z; cases z; done) | exact h | skip
      all_goals first | exact h | (simp_all; done)
    split at h'
    · rename_i hs
      rw [Bool.and_eq_true] at hs
      cases h'
      have hs2 : shal (.lst ys) 13 = true := by simpa [shal] using hs.2
      obtain ⟨as, t1⟩ := Dp.reads I _ x v (r1.dp hs.1) rx
      obtain ⟨bs, t2⟩ := Dp.reads I _ y u (r2.dp hs2) ry
      rw [toP] at t2
      refine notIn_list_data t2 t1 (shals_ok ys 12 hs.2).1 (shal_ok _ _ hs.1).1 (shal_room hu (Nat.le_refl _) hs.1 _) ⟨.bl _, H, I, rfl, ?_⟩
      rw [toPs_map, List.any_map]
      exact q
    · cases h'
  · obtain ⟨a, o, rfl, g, rfl⟩ := in_dict r1 r2 h fun ys z => hl ⟨ys, z⟩
    cases ry
    exact d_notIn (by omega) I g rx fun s' I' => ⟨.bl _, H, I', rfl, q⟩
end
end Pd
set_option Elab.async false
set_option linter.all false
set_option maxRecDepth 100000
set_option maxHeartbeats 4000000
namespace Pd
open PySem L2
open PySem.W (dataLt alike minD AlikeAll min_list_default min_list_data)
/-! ### tests -/
def fChain (s s' : D → D → Option Bool) (fa fb fc : Env → R D) : Env → R Bool := fun ρ => (fa ρ).bind fun d => (fb ρ).bind fun e => (ofO (s d e)).bind fun b => if b = true then (fc ρ).bind fun g => ofO (s' e g) else .ok false
def tAndF (fa fb : Env → R Bool) : Env → R Bool := fun ρ => (fa ρ).bind fun b => if b = true then fb ρ else .ok false
def tOrF (fa fb : Env → R Bool) : Env → R Bool := fun ρ => (fa ρ).bind fun b => if b = true then .ok true else fb ρ
def tNotF (fa : Env → R Bool) : Env → R Bool := fun ρ => (fa ρ).bind fun b => .ok (!b)
def fIf (ft : Env → R Bool) (fa fb : Env → R D) : Env → R D := fun ρ => (ft ρ).bind fun b => if b = true then fa ρ else fb ρ
def fAndV (fa fb : Env → R D) : Env → R D := fun ρ => (fa ρ).bind fun d => (toB d).bind fun b => if b = true then fb ρ else .ok (.bl false)
def fOrV (fa fb : Env → R D) : Env → R D := fun ρ => (fa ρ).bind fun d => (toB d).bind fun b => if b = true then .ok (.bl true) else fb ρ
def fNotV (fa : Env → R D) : Env → R D := fun ρ => (fa ρ).bind fun d => (toB d).bind fun b => .ok (.bl (!b))
def fT (f : Env → R D) : Env → R Bool := fun ρ => (f ρ).bind toB
section
variable {X : Cx} {c : Cfg} {q q1 q2 q3 qa : Q} {a b e e3 : Expr} {es : List Expr} {pos : Pos} {f fa fb fc : Env → R D} {fs : Env → R (List D)} {ta tb tt : Env → R Bool} {s s' : D → D → Option Bool} {op op' : CmpOp}
abbrev DW (X : Cx) (c : Cfg) (e : Expr) (f : Env → R Bool) : Prop := PW X e (rdT c f)
theorem ofB_out {σ : St} {H : Hp} {own : Ow} {r : R Bool} {P : VK} (h : outR c q σ H own (Rp c.cm) (ofB r) P) : outR c .b σ H own RelB r (fun b H' => P (.bl b) H') := by
  cases r with
  | ok b => exact fun v H' F sm ⟨e1, e2⟩ k => by subst e1 e2; exact h _ H' [] sm (.bl _) .nil
  | exc x => exact h
  | no => exact h
theorem cmp_core {σ : St} {H : Hp} {ρ : Env} {own : Ow} {P : Bool → Hp → Prop} (g : Gd c σ H ρ own) (o : outR c .b σ H own RelB (f2 s fa fb ρ) P) :
    tOp (rCm c s) (rd c q1 fa) (rd c q2 fb) σ H (fun x H' => ∃ b, x = .bl b ∧ P b H') :=
  ⟨ρ, own, g, outR.bind o fun d v H1 F hd s1 r1 k1 o1 => ⟨ρ, own, g.same s1, outR.bind (o1.later s1) fun e u H2 G he s2 r2 k2 o2 => by
    have r1' := r1.same s2
    revert o2
    cases hs : s d e with
    | some b => exact fun o2 => ⟨d, e, F, G, r1', r2, b, hs, b, rfl, o2 b H2 [] s2 ⟨rfl, rfl⟩ .nil⟩
    | none => exact fun o2 => False.elim o2⟩⟩
theorem dt_cmp (ho : CmD X c op s) (ha : DE X c q1 a fa) (hb : DE X c q2 b fb) (hm : behindInMarks op b = false) : DT X c (.Compare a [op] [b] pos) (f2 s fa fb) :=
  PT.imp (pt_cmpR ho ha hb hm) fun σ H P ⟨ρ, own, g, o⟩ => cmp_core g o
theorem de_cmp (ho : CmD X c op s) (ha : DE X c q1 a fa) (hb : DE X c q2 b fb) (hm : behindInMarks op b = false) : DE X c q (.Compare a [op] [b] pos) (fB (f2 s fa fb)) :=
  PE.imp (pe_cmpR ho ha hb hm) fun σ H P ⟨ρ, own, g, o⟩ => by
    have := cmp_core (q1 := q1) (q2 := q2) g (ofB_out o)
    obtain ⟨ρ1, own1, g1, o1⟩ := this
    refine ⟨ρ1, own1, g1, outR.imp o1 fun v H1 h => ?_⟩
    obtain ⟨ρ2, own2, g2, o2⟩ := h
    refine ⟨ρ2, own2, g2, outR.imp o2 fun v H1 h => ?_⟩
    obtain ⟨d, e, F, G, r1, r2, b, h1, b', h2, h3⟩ := h
    cases h2
    exact ⟨d, e, F, G, r1, r2, b, h1, h3⟩
theorem chain_core {σ : St} {H : Hp} {ρ : Env} {own : Ow} {P : Bool → Hp → Prop} (g : Gd c σ H ρ own) (o : outR c .b σ H own RelB (fChain s s' fa fb fc ρ) P) :
    tChain (rCm c s) (rCm c s') (rd c q1 fa) (rd c q2 fb) (rd c q3 fc) σ H (fun x H' => ∃ b, x = .bl b ∧ P b H') :=
  ⟨ρ, own, g, outR.bind o fun d v H1 F hd s1 r1 k1 o1 => ⟨ρ, own, g.same s1, outR.bind (o1.later s1) fun e u H2 G he s2 r2 k2 o2 => by
    have r1' := r1.same s2
    revert o2
    cases hs : s d e with
    | none => exact fun o2 => False.elim o2
    | some b =>
      intro o2
      refine ⟨d, e, F, G, r1', r2, b, hs, b, rfl, ?_⟩
      have o3 : outR c .b σ H1 own RelB (if b = true then (fc ρ).bind fun g => ofO (s' e g) else .ok false) P := o2
      cases b with
      | false =>
        rw [if_neg Bool.false_ne_true] at o3 ⊢
        exact ⟨_, rfl, o3 false H2 [] s2 ⟨rfl, rfl⟩ .nil⟩
      | true =>
        rw [if_pos rfl] at o3 ⊢
        refine ⟨ρ, own, (g.same s1).same s2, outR.bind (o3.later s2) fun z w' H3 G3 hz s3 r3 k3 o4 => ?_⟩
        revert o4
        cases hs' : s' e z with
        | none => exact fun o4 => False.elim o4
        | some b' => exact fun o4 => ⟨e, z, G, G3, r2.same s3, r3, b', hs', b', rfl, o4 b' H3 [] s3 ⟨rfl, rfl⟩ .nil⟩⟩⟩
theorem dt_chain (ho : CmD X c op s) (ho' : CmD X c op' s') (ha : DE X c q1 a fa) (hb : DE X c q2 b fb) (hc : DE X c q3 e fc) (hm : lastMarks [op, op'] [b, e] = false) : DT X c (.Compare a [op, op'] [b, e] pos) (fChain s s' fa fb fc) :=
  PT.imp (pt_chain ho ho' ha hb hc hm) fun σ H P ⟨ρ, own, g, o⟩ => chain_core g o
theorem chain_mono {r r' : R2} {t1 t2 t3 : TE} {σ : St} {H : Hp} {P P' : VK} (h1 : ∀ σ H Q Q', (∀ v H', Q v H' → Q' v H') → t1 σ H Q → t1 σ H Q') (h2 : ∀ σ H Q Q', (∀ v H', Q v H' → Q' v H') → t2 σ H Q → t2 σ H Q') (h3 : ∀ σ H Q Q', (∀ v H', Q v H' → Q' v H') → t3 σ H Q → t3 σ H Q')
    (hr : ∀ x y H Q Q', (∀ v H', Q v H' → Q' v H') → r x y H Q → r x y H Q') (hr' : ∀ x y H Q Q', (∀ v H', Q v H' → Q' v H') → r' x y H Q → r' x y H Q') (k : ∀ v H', P v H' → P' v H') (h : tChain r r' t1 t2 t3 σ H P) : tChain r r' t1 t2 t3 σ H P' :=
  h1 _ _ _ _ (fun x H1 => h2 _ _ _ _ fun y H2 => hr _ _ _ _ _ fun z H3 ⟨b, e, hb⟩ => ⟨b, e, by
    cases b with
    | true =>
      rw [if_pos rfl] at hb ⊢
      exact h3 _ _ _ _ (fun w' H4 => hr' _ _ _ _ _ k) hb
    | false =>
      rw [if_neg Bool.false_ne_true] at hb ⊢
      exact k _ _ hb⟩) h
theorem rd_mono {f : Env → R D} (σ : St) (H : Hp) (Q Q' : VK) (k : ∀ v H', Q v H' → Q' v H') (h : rd c q f σ H Q) : rd c q f σ H Q' := let ⟨ρ, own, g, o⟩ := h; ⟨ρ, own, g, outR.imp o k⟩
theorem rCm_mono (x y : V) (H : Hp) (Q Q' : VK) (k : ∀ v H', Q v H' → Q' v H') (h : rCm c s x y H Q) : rCm c s x y H Q' := let ⟨d, e, F, G, r1, r2, b, hs, z⟩ := h; ⟨d, e, F, G, r1, r2, b, hs, k _ _ z⟩
theorem de_chain (ho : CmD X c op s) (ho' : CmD X c op' s') (ha : DE X c q1 a fa) (hb : DE X c q2 b fb) (hc : DE X c q3 e fc) (hm : lastMarks [op, op'] [b, e] = false) : DE X c q (.Compare a [op, op'] [b, e] pos) (fB (fChain s s' fa fb fc)) :=
  PE.imp (pe_chain ho ho' ha hb hc hm) fun σ H P ⟨ρ, own, g, o⟩ => chain_mono rd_mono rd_mono rd_mono rCm_mono rCm_mono (fun v H' ⟨b, e, h⟩ => by subst e; exact h) (chain_core (q1 := q1) (q2 := q2) (q3 := q3) g (ofB_out o))
theorem dt_val (h : DE X c qa e f) (he : ∀ whole, isTrue e X.env whole = (do let v ← whole; standAt e.pos; holding [v] (truthy v))) : DT X c e (fT f) :=
  PT.imp (pt_val h he) fun σ H P ⟨ρ, own, g, o⟩ => ⟨ρ, own, g, outR.bind o fun d v H1 F hd s1 r1 k1 o1 => by
    revert o1
    unfold toB
    split
    · intro o1
      cases r1
      exact ⟨_, rfl, o1 _ H1 [] s1 ⟨rfl, rfl⟩ .nil⟩
    · exact fun o1 => False.elim o1⟩
theorem tbind {σ : St} {H : Hp} {ρ : Env} {own : Ow} {r : R Bool} {k : Bool → R Bool} {P : Bool → Hp → Prop} (g : Gd c σ H ρ own) (o : outR c .b σ H own RelB (r.bind k) P) {P1 : Bool → Hp → Prop}
    (n : ∀ b H1, Same H H1 → Gd c σ H1 ρ own → outR c .b σ H1 own RelB (k b) P → P1 b H1) : outR c .b σ H own RelB r P1 :=
  outR.bind o fun d v H1 F hd s1 r1 k1 o1 => by
    obtain ⟨e1, e2⟩ := r1
    subst e1
    exact n _ H1 s1 (g.same s1) (o1.later s1)
theorem dw_and1 (ha : DT X c a ta) : DW X c (.BoolOp .And [a] pos) ta := pw_and1 ha
theorem dw_or1 (ha : DT X c a ta) : DW X c (.BoolOp .Or [a] pos) ta := pw_or1 ha
theorem dw_and {rest : List Expr} (ha : DT X c a ta) (hb : DW X c (.BoolOp .And (b :: rest) pos) tb) : DW X c (.BoolOp .And (a :: b :: rest) pos) (tAndF ta tb) :=
  ⟨fun wh pins st σ H P I ⟨ρ, own, g, o⟩ => (pw_and ha hb).run wh pins st σ H P I ⟨ρ, own, g, tbind g o fun d H1 s1 g1 o1 => by
    cases d with
    | true => rw [if_pos rfl] at o1 ⊢; exact ⟨ρ, own, g1, o1⟩
    | false => rw [if_neg Bool.false_ne_true] at o1 ⊢; exact o1 false H1 [] (Same.refl _) ⟨rfl, rfl⟩ .nil⟩⟩
theorem dw_or {rest : List Expr} (ha : DT X c a ta) (hb : DW X c (.BoolOp .Or (b :: rest) pos) tb) : DW X c (.BoolOp .Or (a :: b :: rest) pos) (tOrF ta tb) :=
  ⟨fun wh pins st σ H P I ⟨ρ, own, g, o⟩ => (pw_or ha hb).run wh pins st σ H P I ⟨ρ, own, g, tbind g o fun d H1 s1 g1 o1 => by
    cases d with
    | false => rw [if_neg Bool.false_ne_true] at o1 ⊢; exact ⟨ρ, own, g1, o1⟩
    | true => rw [if_pos rfl] at o1 ⊢; exact o1 true H1 [] (Same.refl _) ⟨rfl, rfl⟩ .nil⟩⟩
theorem dt_w (h : DW X c e ta) : DT X c e ta := PW.pt h
theorem dt_not (ha : DT X c a ta) : DT X c (.UnaryOp .Not a pos) (tNotF ta) :=
  PT.imp (pt_not ha) fun σ H P ⟨ρ, own, g, o⟩ => ⟨ρ, own, g, tbind g o fun d H1 s1 g1 o1 => o1 (!d) H1 [] (Same.refl _) ⟨rfl, rfl⟩ .nil⟩
theorem dbind {σ : St} {H : Hp} {ρ : Env} {own : Ow} {r : R Bool} {k : Bool → R D} {P : VK} (g : Gd c σ H ρ own) (o : outR c q σ H own (Rp c.cm) (r.bind k) P) {P1 : Bool → Hp → Prop}
    (n : ∀ b H1, Same H H1 → Gd c σ H1 ρ own → outR c q σ H1 own (Rp c.cm) (k b) P → P1 b H1) : outR c .b σ H own RelB r P1 :=
  outR.bind o fun d v H1 F hd s1 r1 k1 o1 => by
    obtain ⟨e1, e2⟩ := r1
    subst e1
    exact n _ H1 s1 (g.same s1) (o1.later s1)
theorem de_if (ht : DT X c e tt) (ha : DE X c q a fa) (hb : DE X c q b fb) : DE X c q (.IfExp e a b pos) (fIf tt fa fb) :=
  PE.imp (pe_ifExp ht ha hb) fun σ H P ⟨ρ, own, g, o⟩ => ⟨ρ, own, g, dbind g o fun d H1 s1 g1 o1 => by
    cases d with
    | true => rw [if_pos rfl] at o1 ⊢; exact ⟨ρ, own, g1, o1⟩
    | false => rw [if_neg Bool.false_ne_true] at o1 ⊢; exact ⟨ρ, own, g1, o1⟩⟩
theorem bbind {σ : St} {H : Hp} {ρ : Env} {own : Ow} {r : R D} {k : Bool → R D} {P : VK} (g : Gd c σ H ρ own) (o : outR c q σ H own (Rp c.cm) (r.bind fun d => (toB d).bind k) P) {P1 : VK}
    (n : ∀ b H1, Same H H1 → Gd c σ H1 ρ own → outR c q σ H1 own (Rp c.cm) (k b) P → P1 (.bl b) H1) : outR c qa σ H own (Rp c.cm) r P1 :=
  outR.bind o fun d v H1 F hd s1 r1 k1 o1 => by
    have o2 := o1.later s1
    revert o2
    unfold toB
    split
    · intro o2
      cases r1
      exact n _ H1 s1 (g.same s1) o2
    · exact fun o2 => False.elim o2
theorem de_one {o : BoolOp} (h : DE X c q a f) : DE X c q (.BoolOp o [a] pos) f := pe_one h
theorem de_and {rest : List Expr} (ha : DE X c qa a fa) (hb : DE X c q (.BoolOp .And (b :: rest) pos) fb) : DE X c q (.BoolOp .And (a :: b :: rest) pos) (fAndV fa fb) :=
  PE.imp (pe_and ha hb) fun σ H P ⟨ρ, own, g, o⟩ => ⟨ρ, own, g, bbind g o fun d H1 s1 g1 o1 => ⟨d, rfl, by
    cases d with
    | true => rw [if_pos rfl] at o1 ⊢; exact ⟨ρ, own, g1, o1⟩
    | false => rw [if_neg Bool.false_ne_true] at o1 ⊢; exact o1 (.bl false) H1 [] (Same.refl _) (.bl _) .nil⟩⟩
theorem de_or {rest : List Expr} (ha : DE X c qa a fa) (hb : DE X c q (.BoolOp .Or (b :: rest) pos) fb) : DE X c q (.BoolOp .Or (a :: b :: rest) pos) (fOrV fa fb) :=
  PE.imp (pe_or ha hb) fun σ H P ⟨ρ, own, g, o⟩ => ⟨ρ, own, g, bbind g o fun d H1 s1 g1 o1 => ⟨d, rfl, by
    cases d with
    | false => rw [if_neg Bool.false_ne_true] at o1 ⊢; exact ⟨ρ, own, g1, o1⟩
    | true => rw [if_pos rfl] at o1 ⊢; exact o1 (.bl true) H1 [] (Same.refl _) (.bl _) .nil⟩⟩
theorem de_not (ha : DE X c qa a fa) : DE X c q (.UnaryOp .Not a pos) (fNotV fa) :=
  PE.imp (pe_not ha) fun σ H P ⟨ρ, own, g, o⟩ => ⟨ρ, own, g, bbind g o fun d H1 s1 g1 o1 => ⟨d, rfl, o1 (.bl (!d)) H1 [] (Same.refl _) (.bl _) .nil⟩⟩
theorem de_neg (ha : DE X c qa a fa) : DE X c q (.UnaryOp .USub a pos) (f1 negD fa) :=
  PE.imp (pe_un un_neg ha) fun σ H P ⟨ρ, own, g, o⟩ => ⟨ρ, own, g, outR.bind o fun d v H1 F hd s1 r1 k1 o1 => by
    revert o1
    unfold negD
    split
    · intro o1
      cases r1
      exact ⟨_, rfl, o1 _ H1 [] s1 (.int _) .nil⟩
    · exact fun o1 => False.elim o1⟩
end
/-! ### displays -/
def mkTup (fs : Env → R (List D)) : Env → R D := fun ρ => (fs ρ).bind fun ds => if ds.length ≤ 1000 then .ok (.tup ds) else .no
def mkLst (fs : Env → R (List D)) : Env → R D := fun ρ => (fs ρ).bind fun ds => if ds.length ≤ 1000 then .ok (.lst ds) else .no
/-! ### places -/
def lookK {κ : Type} [DecidableEq κ] (k : κ) : List κ → List D → Option D
  | j :: js, d :: ds => if j = k then some d else lookK k js ds
  | _, _ => none
def dgetD : D → D → Option D
  | .dK ks vs, k => match keyOf k with
    | some k => lookK k ks vs
    | none => none
  | .dT ks vs, .tup k => match keysOf k with
    | some k => lookK k ks vs
    | none => none
  | _, _ => none
def ixD (d e : D) : Option D := match itm d, e with
  | some xs, .int i => atI xs i
  | _, _ => dgetD d e
section
variable {X : Cx} {c : Cfg} {q q1 q2 qa : Q} {a b e : Expr} {es : List Expr} {pos : Pos} {f fa fb : Env → R D} {fs : Env → R (List D)}
theorem de_tup {k : Nat} (h : DA X c q es fs) : DE X c q (.Tuple es k pos) (mkTup fs) := PE.imp (pe_tup h) fun σ H P ⟨ρ, own, g, o⟩ => ⟨ρ, own, g, outR.bind o fun ds vs H1 F hd s1 r1 k1 o1 => by
  by_cases hl : ds.length ≤ 1000
  · rw [if_pos hl] at o1
    refine ⟨Nat.le_trans (by rw [r1.length]; exact hl) (by rw [sizeLine_eq]; decide), fun p hp => ?_⟩
    have sm := upd_newSame (o := .tup vs) hp
    exact o1 _ _ F (s1.trans sm) (.tup upd_same (r1.same sm)) k1
  · rw [if_neg hl] at o1
    exact False.elim o1⟩
theorem de_lst (h : DA X c q es fs) : DE X c q (.List es pos) (mkLst fs) := PE.imp (pe_lst h) fun σ H P ⟨ρ, own, g, o⟩ => ⟨ρ, own, g, outR.bind o fun ds vs H1 F hd s1 r1 k1 o1 => by
  by_cases hl : ds.length ≤ 1000
  · rw [if_pos hl] at o1
    refine ⟨Nat.le_trans (by rw [r1.length]; exact hl) (by rw [sizeLine_eq]; decide), fun p hp => ?_⟩
    have sm := upd_newSame (o := .lst vs) hp
    exact o1 _ _ (p :: F) (s1.trans sm) (.lst upd_same (r1.same sm)) (k1.der g s1 r1.trk (.cons hp (List.Sublist.refl _)))
  · rw [if_neg hl] at o1
    exact False.elim o1⟩
theorem Rps.look {κ : Type} [DecidableEq κ] {cm : Md} {H : Hp} (k : κ) : ∀ {kvs : List (κ × V)} {ds : List D} {F : List Addr}, Rps cm H (kvs.map (·.2)) ds F → ∀ {d : D}, lookK k (kvs.map (·.1)) ds = some d → ∃ v G, valV kvs k = some v ∧ Rp cm H v d G ∧ G.Sublist F := by
  intro kvs
  induction kvs with
  | nil => intro ds F r d h; cases r; cases h
  | cons p r ih =>
    intro ds F rr d h
    cases rr with
    | cons r1 r2 =>
      rw [List.map_cons] at h
      unfold lookK at h
      by_cases hk : p.1 = k
      · rw [if_pos hk] at h
        cases h
        exact ⟨_, _, valV_pos hk, r1, List.sublist_append_left _ _⟩
      · rw [if_neg hk] at h
        obtain ⟨v, G, h1, h2, h3⟩ := ih r2 h
        exact ⟨v, G, by rw [valV_neg hk]; exact h1, h2, h3.trans (List.sublist_append_right _ _)⟩
theorem Rps.noLook {κ : Type} [DecidableEq κ] {cm : Md} {H : Hp} (k : κ) : ∀ {kvs : List (κ × V)} {ds : List D} {F : List Addr}, Rps cm H (kvs.map (·.2)) ds F → lookK k (kvs.map (·.1)) ds = none → valV kvs k = none := by
  intro kvs
  induction kvs with
  | nil => intro ds F r h; rfl
  | cons p r ih =>
    intro ds F rr h
    cases rr with
    | cons r1 r2 =>
      rw [List.map_cons] at h
      unfold lookK at h
      by_cases hk : p.1 = k
      · rw [if_pos hk] at h; cases h
      · rw [if_neg hk] at h
        rw [valV_neg hk]; exact ih r2 h
theorem dget_ok {cm : Md} {H : Hp} {x y : V} {d e r : D} {F G : List Addr} (r1 : Rp cm H x d F) (r2 : Rp cm H y e G) (h : dgetD d e = some r) : ∃ p v G', x = .ref p ∧ DGet H p y (some v) ∧ Rp cm H v r G' ∧ G'.Sublist F := by
  unfold dgetD at h
  split at h
  · split at h
    · rename_i hk
      cases r1 with
      | dK e1 e2 rr =>
        subst e2
        obtain ⟨v, G', h1, h2, h3⟩ := rr.look _ h
        rw [r2.key hk]
        refine ⟨_, v, G', rfl, ?_, h2, h3.trans (List.sublist_cons_self _ _)⟩
        rw [← h1]; exact DGet.kR e1.rd
    · cases h
  · split at h
    · rename_i hk
      cases r1 with
      | dT e1 e2 rr =>
        subst e2
        obtain ⟨v, G', h1, h2, h3⟩ := rr.look _ h
        cases r2 with
        | tup e3 r3 =>
          rw [r3.keys hk] at e3
          refine ⟨_, v, G', rfl, ?_, h2, h3.trans (List.sublist_cons_self _ _)⟩
          rw [← h1]; exact DGet.tR e1.rd e3
    · cases h
  · cases h
theorem ixN_len {n : Nat} {i : Int} {j : Nat} (h : ixN n i = some j) : j < n := (ixN_seq h).2.1
theorem Rps.at {cm : Md} {H : Hp} {vs : List V} {ds : List D} {F : List Addr} {i : Int} {d : D} (r : Rps cm H vs ds F) (h : atI ds i = some d) : ∃ v G, atI vs i = some v ∧ Rp cm H v d G ∧ G.Sublist F := by
  unfold atI at h ⊢
  rw [r.length]
  cases hx : ixN ds.length i with
  | none => rw [hx] at h; cases h
  | some j =>
    rw [hx] at h
    obtain ⟨v, G, h1, h2, h3⟩ := r.get (show ds[j]? = some d from h)
    exact ⟨v, G, h1, h2, h3⟩
theorem ix_d (hK : c.cm.K = X.K) (hu : X.A.units + 64 < cLine) : IxR X (rOp c ixD) := by
  intro value slice pins s σ H x y v u P I rx ry h hs
  obtain ⟨d, e, F, G, r1, r2, h⟩ := h
  revert h
  cases hr : ixD d e with
  | none => exact fun h => False.elim h
  | some r =>
  intro h
  have fin : ∀ {z : V} {G' : List Addr}, Rp c.cm H z r G' → G'.Sublist F → P z H := fun rz sl => h _ H _ (Same.refl H) rz (.sublist (sl.trans (List.sublist_append_left _ _)))
  unfold ixD at hr
  split at hr
  · rename_i xs i hi
    obtain ⟨a, vs, G', rfl, hq, sl, rr⟩ := r1.seq hi
    rw [hK] at hq
    obtain ⟨z, G2, h1, h2, h3⟩ := rr.at hr
    cases r2
    rcases hq with hq | hq
    · exact ix_list value slice pins s σ H _ _ v u P I rx ry ⟨a, vs, _, z, rfl, rfl, hq, h1, fin h2 (h3.trans sl)⟩ hs
    · exact ix_tup value slice pins s σ H _ _ v u P I rx ry ⟨a, vs, _, z, rfl, rfl, hq, h1, fin h2 (h3.trans sl)⟩ hs
  · obtain ⟨p, z, G', rfl, g, h2, h3⟩ := dget_ok r1 r2 hr
    cases rx
    exact PyProof.Rows.tail_any (dict_typeIs I g) PySem.F.slot_dict_getitem.lookup (d_getItem (by omega) I g ry fun w' s' I' rw' => ⟨z, H, I', rw', fin h2 h3⟩) hs
theorem de_ix (hK : c.cm.K = X.K) (hu : X.A.units + 64 < cLine) (j : Qj q1 q2 q) (ha : DE X c q1 a fa) (hb : DE X c q2 b fb) (hs : PlainIx b) : DE X c q (.Subscript a b pos) (f2 ixD fa fb) :=
  PE.imp (pe_ix (ix_d hK hu) ha hb hs) fun σ H P ⟨ρ, own, g, o⟩ => ⟨ρ, own, g, outR.bind o fun d v H1 F hd s1 r1 k1 o1 => ⟨ρ, own, g.same s1, outR.bind (o1.later s1) fun e u H2 G he s2 r2 k2 o2 => by
    rw [he] at o1
    have r1' := r1.same s2
    refine ⟨d, e, F, G, r1', r2, ?_⟩
    revert o1
    show outR c q σ H own (Rp c.cm) (ofO (ixD d e)) P → _
    cases ixD d e with
    | some r => exact fun o1 v' H3 FF s3 r3 dr => o1 v' H3 FF ((s1.trans s2).trans s3) r3 ((k1.join j g s1 r1.trk k2).der g (s1.trans s2) (fun a ha => (List.mem_append.mp ha).elim (r1'.trk a) (r2.trk a)) dr)
    | none => exact fun o1 => False.elim o1⟩⟩
/-! ### slices -/
def cutD (xs : List D) (lo hi : Option Int) : List D := (xs.drop (HT.sIx xs.length 0 lo)).take (HT.sIx xs.length xs.length hi - HT.sIx xs.length 0 lo)
def slD (d : D) (lo hi : Option Int) : Option D := match d with
  | .lst xs => some (.lst (cutD xs lo hi))
  | .fz xs => some (.lst (cutD xs lo hi))
  | .tup xs => if HT.sIx xs.length 0 lo = 0 ∧ HT.sIx xs.length xs.length hi = xs.length then none else some (.tup (cutD xs lo hi))
  | _ => none
def RelO (_ : Hp) (x y : Option Int) (F : List Addr) : Prop := x = y ∧ F = []
def rdO (c : Cfg) (f : Env → R (Option Int)) : TO := fun σ H P => ∃ ρ own, Gd c σ H ρ own ∧ outR c .b σ H own RelO (f ρ) P
abbrev DO (X : Cx) (c : Cfg) (e : Option Expr) (f : Env → R (Option Int)) : Prop := PO X e (rdO c f)
def oNo : Env → R (Option Int) := fun _ => .ok none
def toI : D → R (Option Int)
  | .int i => .ok (some i)
  | _ => .no
def oSome (f : Env → R D) : Env → R (Option Int) := fun ρ => (f ρ).bind toI
theorem do_none : DO X c none oNo := ⟨fun pins s σ H P I ⟨ρ, own, g, o⟩ => po_none.run pins s σ H P I (o none H [] (Same.refl H) ⟨rfl, rfl⟩ .nil)⟩
theorem do_some (h : DE X c qa e f) : DO X c (some e) (oSome f) := ⟨fun pins s σ H P I ⟨ρ, own, g, o⟩ => (po_some h).run pins s σ H P I ⟨ρ, own, g, outR.bind o fun d v H1 F hd s1 r1 k1 o1 => by
    revert o1
    unfold toI
    split
    · intro o1
      cases r1
      exact ⟨_, rfl, o1 _ H1 [] s1 ⟨rfl, rfl⟩ .nil⟩
    · exact fun o1 => False.elim o1⟩⟩
def fSl (fa : Env → R D) (fl fh : Env → R (Option Int)) : Env → R D := fun ρ => (fa ρ).bind fun d => (fl ρ).bind fun l => (fh ρ).bind fun h => ofO (slD d l h)
theorem Rps.cut {cm : Md} {H : Hp} {vs : List V} {ds : List D} {F : List Addr} (r : Rps cm H vs ds F) (lo hi : Option Int) : ∃ G, Rps cm H (cutV vs lo hi) (cutD ds lo hi) G ∧ G.Sublist F := by
  unfold cutV cutD
  rw [r.length]
  obtain ⟨F1, F2, e, h1, h2⟩ := r.takeDrop (HT.sIx ds.length 0 lo)
  obtain ⟨G1, G2, e', h3, h4⟩ := h2.takeDrop (HT.sIx ds.length ds.length hi - HT.sIx ds.length 0 lo)
  subst e e'
  exact ⟨G1, h3, (List.sublist_append_left _ _).trans (List.sublist_append_right _ _)⟩
theorem sl_d (hK : c.cm.K = X.K) : SlR X (fun x lo hi H P => ∃ d F, Rp c.cm H x d F ∧ resD c H F (slD d lo hi) P) := by
  intro pins s σ H x v vl vu lo hi sl P I rx hs pl pu h
  obtain ⟨d, F, r1, h⟩ := h
  unfold slD at h
  split at h
  · obtain ⟨a, vs, G', rfl, ha, rfl, rr⟩ := r1.listed
    obtain ⟨G, h1, h2⟩ := rr.cut lo hi
    exact sl_list pins s σ H _ v vl vu lo hi sl P I rx hs pl pu ⟨a, vs, rfl, .of ha, fun p hp => by
      have sm := upd_newSame (o := .lst (cutV vs lo hi)) hp
      exact h _ _ _ sm (.lst upd_same (h1.same sm)) (.cons hp (h2.trans (List.sublist_cons_self _ _)))⟩
  · cases r1 with
    | @frz a' vs' ds' F' e rr =>
    obtain ⟨G, h1, h2⟩ := rr.cut lo hi
    refine sl_list pins s σ H _ v vl vu lo hi sl P I rx hs pl pu ⟨_, _, rfl, by rw [← hK]; exact e.sq, fun p hp => ?_⟩
    have sm := upd_newSame (o := .lst (cutV vs' lo hi)) hp
    exact h _ _ _ sm (.lst upd_same (h1.same sm)) (.cons hp h2)
  · cases r1 with
    | @tup a' vs' ds' F' e rr =>
    split at h
    · exact False.elim h
    · rename_i hn
      obtain ⟨G, h1, h2⟩ := rr.cut lo hi
      refine sl_tup pins s σ H _ v vl vu lo hi sl P I rx hs pl pu ⟨_, _, rfl, .of e, by rw [rr.length]; exact hn, fun p hp => ?_⟩
      have sm := upd_newSame (o := .tup (cutV vs' lo hi)) hp
      exact h _ _ _ sm (.tup upd_same (h1.same sm)) (.sublist h2)
  · exact False.elim h
theorem de_slice (hK : c.cm.K = X.K) {lo hi : Option Expr} {p2 : Pos} {fl fh : Env → R (Option Int)} (ha : DE X c q a fa) (hl : DO X c lo fl) (hh : DO X c hi fh) : DE X c q (.Subscript a (.Slice lo hi none p2) pos) (fSl fa fl fh) :=
  PE.imp (pe_slice (sl_d (c := c) hK) ha hl hh) fun σ H P ⟨ρ, own, g, o⟩ => ⟨ρ, own, g, outR.bind o fun d v H1 F hd s1 r1 k1 o1 => ⟨ρ, own, g.same s1, outR.bind (o1.later s1) fun l l' H2 G hl' s2 r2 k2 o2 =>
    ⟨ρ, own, (g.same s1).same s2, outR.bind (o2.later s2) fun h h' H3 G3 hh' s3 r3 k3 o3 => by
      rw [hl'] at o1
      have o1 : outR c q σ H own (Rp c.cm) ((fh ρ).bind fun h => ofO (slD d l h)) P := o1
      rw [hh'] at o1
      have s13 := (s1.trans s2).trans s3
      obtain ⟨e1, _⟩ := r2
      obtain ⟨e2, _⟩ := r3
      subst e1 e2
      have r1' := (r1.same s2).same s3
      refine ⟨d, F, r1', ?_⟩
      revert o1
      show outR c q σ H own (Rp c.cm) (ofO (slD d l' h')) P → _
      cases slD d l' h' with
      | some r => exact fun o1 v' H4 FF s4 r4 dr => o1 v' H4 FF (s13.trans s4) r4 (k1.der g s13 r1'.trk dr)
      | none => exact fun o1 => False.elim o1⟩⟩⟩
def revD (d : D) : Option D := match itm d with
  | some xs => match d with
    | .tup _ => none
    | _ => some (.lst xs.reverse)
  | none => none
theorem Rps.rev {cm : Md} {H : Hp} : ∀ {vs : List V} {ds : List D} {F : List Addr}, Rps cm H vs ds F → ∃ G, Rps cm H vs.reverse ds.reverse G ∧ G.Perm F := by
  intro vs ds
  induction ds generalizing vs with
  | nil => intro F r; cases r; exact ⟨[], .nil, .refl _⟩
  | cons d ds ih =>
    intro F r
    cases r with
    | cons r1 r2 =>
      obtain ⟨G, h1, h2⟩ := ih r2
      refine ⟨_, by rw [List.reverse_cons, List.reverse_cons]; exact h1.append (.one r1), ?_⟩
      exact (List.perm_append_comm).trans (h2.append_left _)
theorem Der.consPerm {H : Hp} {F G F' : List Addr} {p : Addr} (hp : H p = none) (h : G.Perm F') (h' : F'.Sublist F) : Der H F (p :: G) := ⟨fun a z => (List.mem_cons.mp z).elim (fun e => .inr (by rw [e]; exact hp)) fun e => .inl (h'.subset (h.subset e)), fun n t =>
  List.nodup_cons.mpr ⟨fun z => t p (h'.subset (h.subset z)) hp, h.nodup_iff.mpr (h'.nodup n)⟩⟩
theorem de_rev (hK : c.cm.K = X.K) {k : Nat} {p1 p2 p3 : Pos} (ha : DE X c q a fa) : DE X c q (.Subscript a (.Slice none none (some (.UnaryOp .USub (.Constant (.int 1) k p1) p2)) p3) pos) (f1 revD fa) :=
  PE.imp (pe_revL ha) fun σ H P ⟨ρ, own, g, o⟩ => ⟨ρ, own, g, outR.bind o fun d v H1 F hd s1 r1 k1 o1 => by
    revert o1
    unfold revD
    cases hi : itm d with
    | none => exact fun o1 => False.elim o1
    | some xs =>
      cases r1 with
      | tup e rr => exact fun o1 => False.elim o1
      | @lst a' vs' ds' F' e rr =>
        cases hi
        obtain ⟨G, h1, h2⟩ := rr.rev
        refine fun o1 => ⟨_, _, rfl, .of e, fun p hp => ?_⟩
        have sm := upd_newSame (o := .lst vs'.reverse) hp
        exact o1 _ _ (p :: G) (s1.trans sm) (.lst upd_same (h1.same sm)) (k1.der g s1 (Rp.trk (.lst e rr)) (.consPerm hp h2 (List.sublist_cons_self _ _)))
      | @frz a' vs' ds' F' e rr =>
        cases hi
        obtain ⟨G, h1, h2⟩ := rr.rev
        refine fun o1 => ⟨_, _, rfl, by rw [← hK]; exact e.sq, fun p hp => ?_⟩
        have sm := upd_newSame (o := .lst vs'.reverse) hp
        exact o1 _ _ (p :: G) (s1.trans sm) (.lst upd_same (h1.same sm)) (k1.der g s1 (Rp.trk (.frz e rr)) (.consPerm hp h2 (List.Sublist.refl _)))
      | _ => cases hi⟩
end
end Pd
set_option Elab.async false
set_option linter.all false
set_option maxRecDepth 100000
set_option maxHeartbeats 4000000
namespace Pd
open PySem L2
open PySem.W (dataLt alike minD AlikeAll min_list_default min_list_data)
/-! ### built-in calls -/
def intsOf : List D → Option (List Int)
  | [] => some []
  | d :: ds => match d, intsOf ds with
    | .int i, some r => some (i :: r)
    | _, _ => none
def bolsOf : List D → Option (List Bool)
  | [] => some []
  | d :: ds => match d, bolsOf ds with
    | .bl i, some r => some (i :: r)
    | _, _ => none
def lenS : List D → Option D
  | [.str x] => if x.length ≤ SZ then some (.int x.length) else none
  | [.dK ks _] => some (.int ks.length)
  | [.dT ks _] => some (.int ks.length)
  | [d] => (itm d).map fun xs => .int xs.length
  | _ => none
def listS : List D → Option D
  | [d] => (itm d).map fun xs => .lst xs
  | _ => none
def itmL : D → Option (List D)
  | .lst xs => some xs
  | .fz xs => some xs
  | _ => none
def sumS : List D → Option D
  | [d] => ((itmL d).bind intsOf).map fun ns => .int ns.sum
  | _ => none
def allS : List D → Option D
  | [d] => ((itmL d).bind bolsOf).map fun bs => .bl (bs.all id)
  | _ => none
def anyS : List D → Option D
  | [d] => ((itmL d).bind bolsOf).map fun bs => .bl (bs.any id)
  | _ => none
def max2S : List D → Option D
  | [.int i, .int j] => some (.int (if j > i then j else i))
  | _ => none
def min2S : List D → Option D
  | [.int i, .int j] => some (.int (if j < i then j else i))
  | _ => none
def minI : List Int → Int
  | [] => 0
  | i :: r => r.foldl min i
def min1S : List D → Option D
  | [d] => match (itmL d).bind intsOf with
    | some (i :: r) => some (.int (minI (i :: r)))
    | _ => none
  | _ => none
section
variable {X : Cx} {c : Cfg} {q q1 q2 qa : Q} {a b e : Expr} {es : List Expr} {p pos : Pos} {f fa fb : Env → R D} {fs : Env → R (List D)} {s : List D → Option D} {id T : String} {x : Str}
theorem callS_core {σ : St} {H : Hp} {P : VK} (h : rd c q (fS s fs) σ H P) : tCB (rMt c s) (rdL c q fs) σ H P := by
  obtain ⟨ρ, own, g, o⟩ := h
  refine ⟨ρ, own, g, outR.bind o fun ds vs H1 F hd s1 r1 k1 o1 => ⟨ds, F, r1, ?_⟩⟩
  revert o1
  cases s ds with
  | some r => exact fun o1 v' H3 FF s3 r3 dr => o1 v' H3 FF (s1.trans s3) r3 (k1.der g s1 r1.trk dr)
  | none => exact fun o1 => False.elim o1
theorem de_callB (hc : CallD X c (.builtin id) s) (hg : Gl X x) (hm : X.mg x = none) (hv : bootBuiltins x = some (.builtin id)) (ha : DA X c q (e :: es) fs) (hn : x ≠ "__name__") (hdb : (x == ("__debug__" : Str)) = false)
    (he : starEach (e :: es) X.env = (false, eval e X.env) :: starEach es X.env) (hpl : (backTo pos (starEach es X.env)).any (·.1) = false) : DE X c q (.Call (.Name x p) (e :: es) [] pos) (fS s fs) :=
  PE.imp (pe_callB hc hg hm hv ha hn hdb he hpl) fun σ H P h => callS_core h
theorem de_callTy (hc : CallD X c (.type T) s) (hg : Gl X x) (hm : X.mg x = none) (hv : bootBuiltins x = some (.type T)) (ha : DA X c q (e :: es) fs) (hn : x ≠ "__name__") (hdb : (x == ("__debug__" : Str)) = false)
    (he : starEach (e :: es) X.env = (false, eval e X.env) :: starEach es X.env) (hpl : (backTo pos (starEach es X.env)).any (·.1) = false) : DE X c q (.Call (.Name x p) (e :: es) [] pos) (fS s fs) :=
  PE.imp (pe_callTy hc hg hm hv ha hn hdb he hpl) fun σ H P h => callS_core h
theorem Rps.one_inv {cm : Md} {H : Hp} {vs : List V} {d : D} {F : List Addr} (r : Rps cm H vs [d] F) : ∃ v, vs = [v] ∧ Rp cm H v d F := by
  cases r with
  | cons r1 r2 => cases r2; exact ⟨_, rfl, by simpa using r1⟩
theorem Rps.two_inv {cm : Md} {H : Hp} {vs : List V} {d e : D} {F : List Addr} (r : Rps cm H vs [d, e] F) : ∃ v u F1 F2, vs = [v, u] ∧ F = F1 ++ F2 ∧ Rp cm H v d F1 ∧ Rp cm H u e F2 := by
  cases r with
  | cons r1 r2 =>
    obtain ⟨u, rfl, r3⟩ := r2.one_inv
    exact ⟨_, _, _, _, rfl, rfl, r1, r3⟩
theorem Rps.ints {cm : Md} {H : Hp} {vs : List V} {ds : List D} {F : List Addr} {ns : List Int} (r : Rps cm H vs ds F) (h : intsOf ds = some ns) : vs = ns.map V.int := by
  induction ds generalizing vs F ns with
  | nil => cases r; cases h; rfl
  | cons d ds ih =>
    cases r with
    | cons r1 r2 =>
      unfold intsOf at h
      split at h
      · rename_i hh
        cases h
        cases r1
        rw [ih r2 hh]
        rfl
      · cases h
theorem Rps.bols {cm : Md} {H : Hp} {vs : List V} {ds : List D} {F : List Addr} {ns : List Bool} (r : Rps cm H vs ds F) (h : bolsOf ds = some ns) : vs = ns.map V.bl := by
  induction ds generalizing vs F ns with
  | nil => cases r; cases h; rfl
  | cons d ds ih =>
    cases r with
    | cons r1 r2 =>
      unfold bolsOf at h
      split at h
      · rename_i hh
        cases h
        cases r1
        rw [ih r2 hh]
        rfl
      · cases h
theorem Rp.seqL {cm : Md} {H : Hp} {v : V} {d : D} {ds : List D} {F : List Addr} (r : Rp cm H v d F) (h : itmL d = some ds) : ∃ a vs G, v = .ref a ∧ SqL cm.K H a vs ∧ G.Sublist F ∧ Rps cm H vs ds G := by
  cases r with
  | lst e r => cases h; exact ⟨_, _, _, rfl, .of e, List.sublist_cons_self _ _, r⟩
  | frz e r => cases h; exact ⟨_, _, _, rfl, e.sq, List.Sublist.refl _, r⟩
  | _ => cases h
theorem resD.imm {H : Hp} {F : List Addr} {d : D} {v : V} {P : VK} (h : resD c H F (some d) P) (r : Rp c.cm H v d []) : P v H := h v H [] (Same.refl H) r .nil
theorem cd_len (hK : c.cm.K = X.K) : CallD X c (.builtin "len") lenS := by
  intro pins st σ H xs us P I rx h
  obtain ⟨ds, F, r, h⟩ := h
  unfold lenS at h
  split at h
  · obtain ⟨v, rfl, r1⟩ := r.one_inv
    split at h
    · rename_i hl
      cases r1
      exact call_len pins st σ H _ us P I rx ⟨_, _, rfl, ⟨Nat.le_trans hl SZ_le, rfl⟩, h.imm (.int _)⟩
    · exact False.elim h
  · obtain ⟨v, rfl, r1⟩ := r.one_inv
    cases r1 with
    | dK e1 e2 rr =>
      subst e2
      obtain ⟨u, rfl, ru⟩ := vals1 rx
      cases ru
      refine d_len I e1.rd fun t s' I' => ⟨.int _, H, I', ⟨_, rfl⟩, ?_⟩
      have := h.imm (v := .int _) (.int _)
      rw [List.length_map] at this
      exact this
  · obtain ⟨v, rfl, r1⟩ := r.one_inv
    cases r1 with
    | dT e1 e2 rr =>
      subst e2
      obtain ⟨u, rfl, ru⟩ := vals1 rx
      cases ru
      obtain ⟨z, hd, ys, rel, dd⟩ := dt_rd I.hok e1.rd
      have hl := Paired.length rel
      refine call_len_dictH hd dd (by rw [← hl]; rw [sizeLine_eq] at z; omega) ?_
      rw [← hl]
      have := h.imm (v := .int _) (.int _)
      rw [List.length_map] at this
      exact ⟨.int _, H, I.tok _, ⟨_, rfl⟩, this⟩
  · rename_i d _ _ _
    obtain ⟨v, rfl, r1⟩ := r.one_inv
    cases hi : itm d with
    | none => rw [hi] at h; exact False.elim h
    | some xs =>
      rw [hi] at h
      obtain ⟨a, vs, G, rfl, hq, _, rr⟩ := r1.seq hi
      rw [hK] at hq
      have hl := rr.length
      have := h.imm (v := .int _) (.int _)
      rcases hq with hq | hq
      · exact call_len pins st σ H _ us P I rx ⟨_, vs.length, rfl, .inl ⟨vs, hq, rfl⟩, by rw [hl]; exact this⟩
      · exact call_len pins st σ H _ us P I rx ⟨_, vs.length, rfl, .inr ⟨vs, hq, rfl⟩, by rw [hl]; exact this⟩
  · exact False.elim h
theorem cd_list (hK : c.cm.K = X.K) : CallD X c (.type "list") listS := by
  intro pins st σ H xs us P I rx h
  obtain ⟨ds, F, r, h⟩ := h
  unfold listS at h
  split at h
  · rename_i d
    obtain ⟨v, rfl, r1⟩ := r.one_inv
    cases hi : itm d with
    | none => rw [hi] at h; exact False.elim h
    | some ys =>
      rw [hi] at h
      obtain ⟨a, vs, G, rfl, hq, sl, rr⟩ := r1.seq hi
      rw [hK] at hq
      refine call_list_of pins st σ H _ us P I rx ⟨a, vs, rfl, hq, fun p hp => ?_⟩
      have sm := upd_newSame (o := .lst vs) hp
      exact h _ _ (p :: G) sm (.lst upd_same (rr.same sm)) (.cons hp sl)
  · exact False.elim h
theorem cd_sum (hK : c.cm.K = X.K) (hc : X.calm = true) : CallD X c (.builtin "sum") sumS := by
  intro pins st σ H xs us P I rx h
  obtain ⟨ds, F, r, h⟩ := h
  unfold sumS at h
  split at h
  · rename_i d
    obtain ⟨v, rfl, r1⟩ := r.one_inv
    cases hi : itmL d with
    | none => rw [hi] at h; exact False.elim h
    | some ys =>
      rw [hi] at h
      cases hn : intsOf ys with
      | none => simp only [Option.bind_some, hn] at h; exact False.elim h
      | some ns =>
        simp only [Option.bind_some, hn] at h
        obtain ⟨a, vs, G, rfl, hq, sl, rr⟩ := r1.seqL hi
        rw [hK] at hq
        rw [rr.ints hn] at hq
        exact cr_sum hc pins st σ H _ us P I rx ⟨a, ns, rfl, hq, h.imm (.int _)⟩
  · exact False.elim h
theorem cd_all (hK : c.cm.K = X.K) (hc : X.calm = true) : CallD X c (.builtin "all") allS := by
  intro pins st σ H xs us P I rx h
  obtain ⟨ds, F, r, h⟩ := h
  unfold allS at h
  split at h
  · rename_i d
    obtain ⟨v, rfl, r1⟩ := r.one_inv
    cases hi : itmL d with
    | none => rw [hi] at h; exact False.elim h
    | some ys =>
      rw [hi] at h
      cases hn : bolsOf ys with
      | none => simp only [Option.bind_some, hn] at h; exact False.elim h
      | some ns =>
        simp only [Option.bind_some, hn] at h
        obtain ⟨a, vs, G, rfl, hq, sl, rr⟩ := r1.seqL hi
        rw [hK] at hq
        rw [rr.bols hn] at hq
        exact cr_all hc pins st σ H _ us P I rx ⟨a, ns, rfl, hq, h.imm (.bl _)⟩
  · exact False.elim h
theorem cd_any (hK : c.cm.K = X.K) (hc : X.calm = true) : CallD X c (.builtin "any") anyS := by
  intro pins st σ H xs us P I rx h
  obtain ⟨ds, F, r, h⟩ := h
  unfold anyS at h
  split at h
  · rename_i d
    obtain ⟨v, rfl, r1⟩ := r.one_inv
    cases hi : itmL d with
    | none => rw [hi] at h; exact False.elim h
    | some ys =>
      rw [hi] at h
      cases hn : bolsOf ys with
      | none => simp only [Option.bind_some, hn] at h; exact False.elim h
      | some ns =>
        simp only [Option.bind_some, hn] at h
        obtain ⟨a, vs, G, rfl, hq, sl, rr⟩ := r1.seqL hi
        rw [hK] at hq
        rw [rr.bols hn] at hq
        exact cr_any hc pins st σ H _ us P I rx ⟨a, ns, rfl, hq, h.imm (.bl _)⟩
  · exact False.elim h
theorem cd_max2 (hc : X.calm = true) : CallD X c (.builtin "max") max2S := by
  intro pins st σ H xs us P I rx h
  obtain ⟨ds, F, r, h⟩ := h
  unfold max2S at h
  split at h
  · obtain ⟨v, u, F1, F2, rfl, _, r1, r2⟩ := r.two_inv
    cases r1; cases r2
    exact call_max2 hc pins st σ H _ us P I rx ⟨_, _, rfl, h.imm (.int _)⟩
  · exact False.elim h
theorem min_fold : ∀ (r : List Int) (i : Int), r.foldl min i ∈ i :: r ∧ ∀ y ∈ i :: r, r.foldl min i ≤ y := by
  intro r
  induction r with
  | nil => intro i; simp
  | cons j r ih =>
    intro i
    obtain ⟨h1, h2⟩ := ih (min i j)
    rw [List.foldl_cons]
    have h3 := h2 (min i j) List.mem_cons_self
    refine ⟨?_, fun y hy => ?_⟩
    · rcases List.mem_cons.mp h1 with h | h
      · rw [h]
        by_cases hij : i ≤ j
        · rw [Int.min_eq_left hij]; exact List.mem_cons_self
        · rw [Int.min_eq_right (by omega)]; exact List.mem_cons_of_mem _ List.mem_cons_self
      · exact List.mem_cons_of_mem _ (List.mem_cons_of_mem _ h)
    · rcases List.mem_cons.mp hy with rfl | hy
      · omega
      · rcases List.mem_cons.mp hy with rfl | hy
        · omega
        · exact h2 y (List.mem_cons_of_mem _ hy)
def minS (l : List D) : Option D := match l with
  | [_] => min1S l
  | _ => min2S l
theorem cd_min (hK : c.cm.K = X.K) (hc : X.calm = true) : CallD X c (.builtin "min") minS := by
  intro pins st σ H xs us P I rx h
  obtain ⟨ds, F, r, h⟩ := h
  unfold minS at h
  split at h
  · rename_i d
    obtain ⟨v, rfl, r1⟩ := r.one_inv
    unfold min1S at h
    cases hh : (itmL d).bind intsOf with
    | none => simp only [hh] at h; exact False.elim h
    | some l =>
      cases l with
      | nil => simp only [hh] at h; exact False.elim h
      | cons i ns =>
        simp only [hh] at h
        cases hi : itmL d with
        | none => rw [hi] at hh; cases hh
        | some ys =>
          rw [hi] at hh
          obtain ⟨a, vs, G, rfl, hq, sl, rr⟩ := r1.seqL hi
          rw [hK] at hq
          rw [rr.ints hh] at hq
          refine cr_min hc pins st σ H _ us P I rx ⟨a, _, rfl, hq, Nat.zero_lt_succ _, fun m hm hle => ?_⟩
          obtain ⟨h1, h2⟩ := min_fold ns i
          have e : m = minI (i :: ns) := Int.le_antisymm (hle _ h1) (h2 m hm)
          rw [e]
          exact h.imm (.int _)
  · unfold min2S at h
    split at h
    · obtain ⟨v, u, F1, F2, rfl, _, r1, r2⟩ := r.two_inv
      cases r1; cases r2
      exact call_min2 hc pins st σ H _ us P I rx ⟨_, _, rfl, h.imm (.int _)⟩
    · exact False.elim h
end
end Pd
set_option Elab.async false
set_option linter.all false
set_option maxRecDepth 100000
set_option maxHeartbeats 4000000
namespace Pd
open PySem L2
open PySem.W (dataLt alike minD AlikeAll min_list_default min_list_data)
/-! ### min(.., default=None) -/
def minL (x : D) (xs : List D) : D := xs.foldl (fun a y => if dataLt (toP y) (toP a) = true then y else a) x
def okMin (xs : List D) : Bool := (xs.all fun x => shal x 12 && !isNon x) && xs.all fun x => xs.all fun y => alike (toP x) (toP y)
def minDef (d : D) : Option D := match itmL d with
  | some [] => some .non
  | some (x :: xs) => if okMin (x :: xs) = true then some (minL x xs) else none
  | none => none
theorem minL_mem : ∀ (xs : List D) (x : D), minL x xs ∈ x :: xs := by
  intro xs
  induction xs with
  | nil => intro x; exact List.mem_cons_self
  | cons y ys ih =>
    intro x
    have h := ih (if dataLt (toP y) (toP x) = true then y else x)
    show minL _ ys ∈ _
    rcases List.mem_cons.mp h with h | h
    · show minL (if dataLt (toP y) (toP x) = true then y else x) ys ∈ x :: y :: ys
      rw [h]
      split
      · exact List.mem_cons_of_mem _ List.mem_cons_self
      · exact List.mem_cons_self
    · exact List.mem_cons_of_mem _ (List.mem_cons_of_mem _ h)
theorem minL_toP : ∀ (xs : List D) (x : D), toP (minL x xs) = minD (toP x) (toPs xs) := by
  intro xs
  induction xs with
  | nil => intro x; rfl
  | cons y ys ih =>
    intro x
    show toP (minL (if dataLt (toP y) (toP x) = true then y else x) ys) = minD (if dataLt (toP y) (toP x) = true then toP y else toP x) (toPs ys)
    rw [ih]
    split <;> rfl
theorem shals_mem {n : Nat} {d : D} : ∀ {ds : List D}, shals ds n = true → d ∈ ds → shal d n = true := fun h hd => by
  rw [shals_all] at h
  exact List.all_eq_true.mp h d hd
theorem okMin_ok {xs : List D} (h : okMin xs = true) : shals xs 12 = true ∧ AlikeAll (toPs xs) := by
  simp only [okMin, Bool.and_eq_true, List.all_eq_true, Bool.not_eq_true'] at h
  refine ⟨by rw [shals_all]; exact List.all_eq_true.mpr fun x hx => (h.1 x hx).1, fun x hx y hy => ?_, fun x hx => ?_⟩
  · rw [toPs_map] at hx hy
    obtain ⟨d, hd, rfl⟩ := List.mem_map.mp hx
    obtain ⟨e, he, rfl⟩ := List.mem_map.mp hy
    exact h.2 d hd e he
  · rw [toPs_map] at hx
    obtain ⟨d, hd, rfl⟩ := List.mem_map.mp hx
    obtain ⟨h1, h2⟩ := h.1 d hd
    intro z
    cases d <;> simp [toP, isNon, shal] at z h1 h2
section
variable {X : Cx} {c : Cfg} {q : Q} {e : Expr} {p p2 p3 pos : Pos} {k : Nat} {f : Env → R D}
theorem min_run (hK : c.cm.K = X.K) {pins : List (Addr × Obj)} {s : Shared} {σ : St} {H : Hp} {v : V} {d r : D} {F : List Addr} {P : VK} {u : Value} (hc : X.calm = true) (hu : X.A.units + 64 < cLine) (I : Inv X pins σ H s) (rv : RelV v u) (r1 : Rp c.cm H v d F) (h : minDef d = some r)
    (kk : ∀ v' G, Rp c.cm H v' r G → G.Sublist F → P v' H) : wpAny (model X.prog X.w) X.A (call (.builtin "min") [u] [(Str.ofString "default", .none)]) (EP X pins σ P) X.xe s := by
  unfold minDef at h
  cases hi : itmL d with
  | none => rw [hi] at h; cases h
  | some xs =>
    rw [hi] at h
    obtain ⟨a, vs, G, rfl, hq, sl, rr⟩ := r1.seqL hi
    rw [hK] at hq
    cases rv
    obtain ⟨its, rl, pl, hz⟩ := I.list hq
    have al : shals xs 12 = true ∧ AlikeAll (toPs xs) := by
      cases xs with
      | nil => exact ⟨rfl, (fun x hx => nomatch hx), fun x hx => nomatch hx⟩
      | cons y ys =>
        split at h
        · rename_i hh; cases hh
        · rename_i hh
          cases hh
          split at h
          · exact okMin_ok (by assumption)
          · cases h
        · rename_i hh; cases hh
    obtain ⟨as, hr⟩ := Dp.readsAll I _ vs its (rr.dp al.1) rl
    have hdep := (shals_ok xs 12 al.1).2
    refine min_list_default (I.ok.hd hc) pl.isList (vs := its.toArray) (by simpa using hr) al.2 (by omega) (fun h0 h' tk kp => ?_) fun y ys i w h' tk bs hxs hw hrd kp => ?_
    · cases xs with
      | nil =>
        cases h
        exact ⟨.non, H, I.kept kp, rfl, kk _ [] .non (List.nil_sublist _)⟩
      | cons y ys => rw [toPs] at h0; cases h0
    · cases xs with
      | nil => rw [toPs] at hxs; cases hxs
      | cons z zs =>
        rw [toPs] at hxs
        injection hxs with e1 e2
        subst e1 e2
        have hr' : some (minL z zs) = some r := by
          split at h
          · rename_i hh; cases hh
          · rename_i hh
            cases hh
            split at h
            · exact h
            · cases h
          · rename_i hh; cases hh
        cases hr'
        have I' : Inv X pins σ H { s with heap := h', toks := tk } := I.kept kp
        have hw' : its[i]? = some w := by simpa using hw
        have hlt : i < vs.length := by rw [rl.length]; exact (List.getElem?_eq_some_iff.mp hw').1
        obtain ⟨u', e1, ru⟩ := rl.get (List.getElem?_eq_getElem hlt)
        rw [hw'] at e1
        cases e1
        obtain ⟨dd, G', e3, rd', sl'⟩ := rr.getV (List.getElem?_eq_getElem hlt)
        have hm : dd ∈ z :: zs := List.mem_of_getElem? e3
        have sdd := shals_mem al.1 hm
        have smm := shals_mem al.1 (minL_mem zs z)
        obtain ⟨cs, t1⟩ := Dp.reads I' _ _ w (rd'.dp sdd) ru
        rw [← minL_toP] at hrd
        have e4 := PySem.SeqAt.plain_unique _ _ w cs bs (shal_ok _ _ sdd).1 t1 hrd
        have e5 := toP_inj dd (minL z zs) 12 sdd smm e4
        subst e5
        exact ⟨_, H, I', ru, kk _ G' rd' (sl'.trans sl)⟩
theorem de_min0 (hK : c.cm.K = X.K) (hc : X.calm = true) (hu : X.A.units + 64 < cLine) (hg : Gl X "min") (hm : X.mg "min" = none) (ha : DE X c q e f) (hs : starEach [e] X.env = (false, eval e X.env) :: starEach [] X.env) :
    DE X c q (.Call (.Name "min" p) [e] [⟨some "default", .Constant .none k p2, p3⟩] pos) (f1 minDef f) := by
  refine ⟨fun pins s σ H P I ⟨ρ, own, g, o⟩ => ?_⟩
  refine wpAny_Call_Name_kw (ld_blt I hg hm (by decide +kernel : bootBuiltins "min" = some (.builtin "min")) ?_)
  refine PyProof.Rows.callWith_kw (thn ((pa_cons ha pa_nil hs).run pos pins s σ H (fun vs H1 => ∃ d v F, vs = [v] ∧ Same H H1 ∧ Rp c.cm H1 v d F ∧ QOk c q H own F ∧ outR c q σ H own (Rp c.cm) (ofO (minDef d)) P) I
    ⟨ρ, own, g, outR.bind o fun d v H1 F hd s1 r1 k1 o1 => ⟨d, v, F, rfl, s1, r1, k1, o1⟩⟩) fun us s1 ⟨vs, H1, I1, rv, d, v, F, ev, s01, r1, k1, o1⟩ => ?_) (by rw [hs]; rfl) (by rw [hs]; rfl) rfl rfl
  subst ev
  obtain ⟨u, rfl, ru⟩ := vals1 rv
  refine thn ((pk_cons (nm := some "default") (kpos := p3) (pe_non (j := k) (pos := p2)) pk_nil).run pos pins s1 σ H1 (fun zs H2 => zs = [V.non] ∧ H2 = H1) I1 ⟨rfl, rfl⟩) fun ws s2 ⟨zs, H2, I2, rz, e1, e2⟩ => ?_
  subst e1 e2
  obtain ⟨u2, rfl, ru2⟩ := vals1 rz
  cases ru2
  revert o1
  cases hmd : minDef d with
  | none => exact fun o1 => False.elim o1
  | some r =>
    intro o1
    exact min_run hK hc hu I2 ru r1 hmd fun v' G rv' sl => o1 v' H2 G s01 rv' (k1.der g s01 r1.trk (.sublist sl))
end
/-! ### what is walked -/
structure ItOk (c : Cfg) (H1 : Hp) (own : Ow) (J : It) (ds : List D) : Prop where
  go : ∀ i H own' d, Ext H1 own H own' → (∀ j a, a ∈ own' j → ∃ o, H a = some o ∧ isMut o = true) → ds[i]? = some d → J.go i H
  yld : ∀ i H own' d x H', Ext H1 own H own' → (∀ j a, a ∈ own' j → ∃ o, H a = some o ∧ isMut o = true) → ds[i]? = some d → J.yld i H x H' → Same H H' ∧ ∃ F, Rp c.cm H' x d F ∧ ∀ a ∈ F, c.B a ∧ ∀ j, a ∉ own' j
  stop : ∀ i H own', Ext H1 own H own' → (∀ j a, a ∈ own' j → ∃ o, H a = some o ∧ isMut o = true) → ds.length ≤ i → J.stop i H
def rdI (c : Cfg) (f : Env → R (List D)) : TI := fun σ H Rr => ∃ ρ own, Gd c σ H ρ own ∧ match f ρ with
  | .ok ds => ∀ J H1, Same H H1 → ItOk c H1 own J ds → Rr J H1
  | .exc x => ∀ C dd H', ClX c.cm x C dd → Same H H' → c.W (.ref C) dd σ H'
  | .no => False
abbrev DI (X : Cx) (c : Cfg) (tg iter : Expr) (f : Env → R (List D)) : Prop := PI X tg iter (rdI c f)
def fItm (f : Env → R D) : Env → R (List D) := fun ρ => (f ρ).bind fun d => ofO (itm d)
section
variable {X : Cx} {c : Cfg} {q : Q} {tg e : Expr} {p p2 p3 pos : Pos} {f : Env → R D} {σ : St} {H H1 : Hp} {ρ : Env} {own : Ow}
theorem PI.imp {X : Cx} {tg e : Expr} {wi wi' : TI} (h : PI X tg e wi) (k : ∀ σ H Q, wi' σ H Q → wi σ H Q) : PI X tg e wi' := ⟨fun pins s σ H R I z => h.run pins s σ H R I (k _ _ _ z)⟩
theorem sq_ext {K : PySem.W.Frag} {a : Addr} {vs : List V} {own' : Ow} (hM : ∀ j a, a ∈ own j → ∃ o, H1 a = some o ∧ isMut o = true) (ha : ∀ j, a ∉ own j) (x : Ext H1 own H own') (h : SqL K H1 a vs) : SqL K H a vs := by
  rcases h with (h | ⟨o, h⟩) | h
  · exact .inl (.inl (x.keep _ _ h ha))
  · exact .inl (.inr ⟨o, x.keep _ _ h ha⟩)
  · exact .inr h
theorem st_ext {K : PySem.W.Frag} {a : Addr} {vs : List V} {own' : Ow} (hM : ∀ j a, a ∈ own j → ∃ o, H1 a = some o ∧ isMut o = true) (x : Ext H1 own H own') (h : H1 a = some (.tup vs)) : SqT K H a vs := by
  refine .inl (.inl (x.keep _ _ h fun j hj => ?_))
  obtain ⟨o, e, m⟩ := hM j a hj
  rw [h] at e; cases e; cases m
theorem item_ok {a : Addr} {vs : List V} {ds : List D} {F : List Addr} {own' : Ow} (g : Gd c σ H1 ρ own) (x : Ext H1 own H own') (rr : Rps c.cm H1 vs ds F) (hz : ∀ a ∈ F, c.B a ∧ ∀ j, a ∉ own j) {i : Nat} {d : D} {v : V} (hd : ds[i]? = some d) (hv : vs[i]? = some v) :
    ∃ G, Rp c.cm H v d G ∧ ∀ a ∈ G, c.B a ∧ ∀ j, a ∉ own' j := by
  obtain ⟨v', G, h1, h2, h3⟩ := rr.get hd
  rw [hv] at h1
  cases h1
  have hG : ∀ a ∈ G, c.B a ∧ ∀ j, a ∉ own j := fun a ha => hz a (h3.subset ha)
  exact ⟨G, h2.ext g x fun a ha => (hG a ha).2, fun a ha => ⟨(hG a ha).1, x.out a (h2.trk a ha) (hG a ha).2⟩⟩
theorem itl_ok {a : Addr} {vs : List V} {ds : List D} {F : List Addr} {K : PySem.W.Frag} (g : Gd c σ H1 ρ own) (hq : SqL K H1 a vs) (ha : ∀ j, a ∉ own j) (rr : Rps c.cm H1 vs ds F) (hz : ∀ a ∈ F, c.B a ∧ ∀ j, a ∉ own j) : ItOk c H1 own (Itl K a) ds where
  go := fun i H own' d x _ hd => by
    obtain ⟨v, G, h1, _, _⟩ := rr.get hd
    exact ⟨vs, v, sq_ext g.ownM ha x hq, h1⟩
  yld := fun i H own' d y H' x _ hd hy => by
    obtain ⟨e, hy⟩ := hy
    subst e
    exact ⟨Same.refl _, item_ok (a := a) g x rr hz hd (hy vs (sq_ext g.ownM ha x hq))⟩
  stop := fun i H own' x _ hi => ⟨vs, sq_ext g.ownM ha x hq, by rw [rr.length]; exact hi⟩
theorem itt_ok {a : Addr} {vs : List V} {ds : List D} {F : List Addr} {K : PySem.W.Frag} (g : Gd c σ H1 ρ own) (hq : H1 a = some (.tup vs)) (rr : Rps c.cm H1 vs ds F) (hz : ∀ a ∈ F, c.B a ∧ ∀ j, a ∉ own j) : ItOk c H1 own (Itt K a) ds where
  go := fun i H own' d x _ hd => by
    obtain ⟨v, G, h1, _, _⟩ := rr.get hd
    exact ⟨vs, v, st_ext g.ownM x hq, h1⟩
  yld := fun i H own' d y H' x _ hd hy => by
    obtain ⟨e, hy⟩ := hy
    subst e
    exact ⟨Same.refl _, item_ok (a := a) g x rr hz hd (hy vs (st_ext g.ownM x hq))⟩
  stop := fun i H own' x _ hi => ⟨vs, st_ext g.ownM x hq, by rw [rr.length]; exact hi⟩
/-- a list's or a tuple's iterator -/
theorem pi_seq {l : Expr} {tl : TE} {wi : TI} (hl : PE X l tl) (k : ∀ σ H Rr, wi σ H Rr → tl σ H fun x H1 => ∃ a, x = .ref a ∧ ((∃ xs, SqL X.K H1 a xs) ∧ Rr (Itl X.K a) H1 ∨ (∃ xs, SqT X.K H1 a xs) ∧ Rr (Itt X.K a) H1)) : PI X tg l wi := by
  refine ⟨fun pins s σ H Rr I h => thn (hl.run pins s σ H _ I (k σ H Rr h)) fun v s1 ⟨x, H1, I1, r1, a, e, q1⟩ => ?_⟩
  subst e
  cases r1
  have new : ∀ {K : Obj}, Inv X pins σ H1 { s1 with heap := s1.heap.push K } := fun {K} => I1.kept (t' := s1.toks) fun b o e => Heap.get?_push_of_some _ e
  have fp : ∀ b ∈ [s1.heap.objs.size], FpOk X pins H1 b := fun b hb => by
    rw [List.mem_singleton] at hb
    subst hb
    exact I1.fpOk (Nat.le_refl _) (I1.hok.fresh (Nat.le_refl _))
  rcases q1 with ⟨⟨xs, hq⟩, q⟩ | ⟨⟨xs, hq⟩, q⟩
  · obtain ⟨its, rv, pl, hz⟩ := I1.list hq
    exact wpAny_pyIter_list pl.isList ⟨_, [_], _, _, H1, rfl, new, turn_list a _, ⟨_, Heap.get?_push_size _ rfl, rfl, rfl⟩, fp, q⟩
  · obtain ⟨its, rv, pl, hz⟩ := I1.tuple hq
    exact wpAny_pyIter_tuple (show s1.heap.IsTuple a its.toArray from pl) ⟨_, [_], _, _, H1, rfl, new, turn_tuple a _, ⟨_, Heap.get?_push_size _ rfl, rfl, rfl⟩, fp, q⟩
theorem fz_ext {K : PySem.W.Frag} {a : Addr} {vs : List V} {own' : Ow} (hM : ∀ j a, a ∈ own j → ∃ o, H1 a = some o ∧ isMut o = true) (x : Ext H1 own H own') (h : FzL K H1 a vs) : FzL K H a vs :=
  h.imp (fun ⟨o, e⟩ => ⟨o, x.keep _ _ e fun j hj => by
    obtain ⟨o', e', m⟩ := hM j a hj
    rw [e] at e'; cases e'; cases m⟩) id
theorem itl_okF {a : Addr} {vs : List V} {ds : List D} {F : List Addr} {K : PySem.W.Frag} (g : Gd c σ H1 ρ own) (hq : FzL K H1 a vs) (rr : Rps c.cm H1 vs ds F) (hz : ∀ a ∈ F, c.B a ∧ ∀ j, a ∉ own j) : ItOk c H1 own (Itl K a) ds where
  go := fun i H own' d x _ hd => by
    obtain ⟨v, G, h1, _, _⟩ := rr.get hd
    exact ⟨vs, v, (fz_ext g.ownM x hq).sq, h1⟩
  yld := fun i H own' d y H' x _ hd hy => by
    obtain ⟨e, hy⟩ := hy
    subst e
    exact ⟨Same.refl _, item_ok (a := a) g x rr hz hd (hy vs (fz_ext g.ownM x hq).sq)⟩
  stop := fun i H own' x _ hi => ⟨vs, (fz_ext g.ownM x hq).sq, by rw [rr.length]; exact hi⟩
theorem di_seq (hK : c.cm.K = X.K) (ha : DE X c .z e f) : DI X c tg e (fItm f) := pi_seq ha fun σ H Rr ⟨ρ, own, g, o⟩ => ⟨ρ, own, g, by
  unfold fItm at o
  cases hf : f ρ with
  | no => rw [hf] at o; exact o
  | exc x => rw [hf] at o; exact o
  | ok d =>
    rw [hf] at o
    intro v H1 F s1 r1 k1
    have o' : match ofO (itm d) with
      | .ok ds => ∀ J H1, Same H H1 → ItOk c H1 own J ds → Rr J H1
      | .exc x => ∀ C dd H', ClX c.cm x C dd → Same H H' → c.W (.ref C) dd σ H'
      | .no => False := o
    cases hi : itm d with
    | none => rw [hi] at o'; exact False.elim o'
    | some ds =>
      rw [hi] at o'
      have g1 := g.same s1
      cases r1 with
      | lst e r => cases hi; exact ⟨_, rfl, .inl ⟨⟨_, .of e⟩, o' _ H1 s1 (itl_ok g1 (.of e) (k1 _ List.mem_cons_self).2 r fun a ha => k1 a (List.mem_cons_of_mem _ ha))⟩⟩
      | frz e r => cases hi; rw [hK] at e; exact ⟨_, rfl, .inl ⟨⟨_, e.sq⟩, o' _ H1 s1 (itl_okF g1 e r k1)⟩⟩
      | tup e r => cases hi; exact ⟨_, rfl, .inr ⟨⟨_, .of e⟩, o' _ H1 s1 (itt_ok g1 e r k1)⟩⟩
      | _ => cases hi⟩
end
end Pd
set_option Elab.async false
set_option linter.all false
set_option maxRecDepth 100000
set_option maxHeartbeats 4000000
namespace Pd
open PySem L2
/-! ### targets -/
def rdG (c : Cfg) (h : D → Env → Option Env) (ts : List Nat) : TG := fun v σ H P => ∃ ρ own d F, Gd c σ H ρ own ∧ Rp c.cm H v d F ∧ (∀ a ∈ F, c.B a ∧ ∀ j, a ∉ own j) ∧
  ∃ ρ', h d ρ = some ρ' ∧ ∀ σ', Gd c σ' H ρ' own → (∀ vs : List Nat, (∀ t ∈ ts, t ∈ vs) → wipe σ' vs = wipe σ vs) → P σ' H
def rdGs (c : Cfg) (h : List D → Env → Option Env) (ts : List Nat) : TGs := fun v σ H P => ∃ ρ own d F, Gd c σ H ρ own ∧ Rps c.cm H v d F ∧ (∀ a ∈ F, c.B a ∧ ∀ j, a ∉ own j) ∧
  ∃ ρ', h d ρ = some ρ' ∧ ∀ σ', Gd c σ' H ρ' own → (∀ vs : List Nat, (∀ t ∈ ts, t ∈ vs) → wipe σ' vs = wipe σ vs) → P σ' H
abbrev DG (X : Cx) (c : Cfg) (tg : Expr) (h : D → Env → Option Env) (ts : List Nat) : Prop := PG X tg (rdG c h ts)
abbrev DGs (X : Cx) (c : Cfg) (tg : List Expr) (h : List D → Env → Option Env) (ts : List Nat) : Prop := PGs X tg (rdGs c h ts)
def tgName (i : Nat) : D → Env → Option Env := fun d ρ => some (ρ.set i (some d))
def tgNil : List D → Env → Option Env := fun ds ρ => match ds with
  | [] => some ρ
  | _ => none
def tgCons (h : D → Env → Option Env) (r : List D → Env → Option Env) : List D → Env → Option Env := fun ds ρ => match ds with
  | d :: ds => (h d ρ).bind (r ds)
  | [] => none
def tgTup (n : Nat) (h : List D → Env → Option Env) : D → Env → Option Env := fun d ρ => match d with
  | .tup ds => if ds.length = n then h ds ρ else none
  | _ => none
theorem wipe_set (σ : St) (i : Nat) (x : Option V) : ∀ vs : List Nat, i ∈ vs → wipe (σ.set i x) vs = wipe σ vs := by
  have comm : ∀ (vs : List Nat) (σ : St), (i ∉ vs) → wipe (σ.set i x) vs = (wipe σ vs).set i x := by
    intro vs
    induction vs with
    | nil => intro σ _; rfl
    | cons v vs ih =>
      intro σ h
      rw [List.mem_cons, not_or] at h
      unfold wipe
      rw [ih σ h.2, List.set_comm _ _ h.1]
  intro vs
  induction vs with
  | nil => intro h; cases h
  | cons v vs ih =>
    intro h
    unfold wipe
    by_cases hv : i ∈ vs
    · rw [ih hv]
    · have e : i = v := (List.mem_cons.mp h).resolve_right hv
      subst e
      rw [comm vs σ hv, List.set_set]
theorem wipe_wipe (σ : St) : ∀ vs : List Nat, wipe (wipe σ vs) vs = wipe σ vs
  | [] => rfl
  | v :: vs => by
    show wipe ((wipe σ vs).set v none) (v :: vs) = _
    rw [wipe_set _ v none (v :: vs) List.mem_cons_self]
    show (wipe (wipe σ vs) vs).set v none = (wipe σ vs).set v none
    rw [wipe_wipe σ vs]
section
variable {X : Cx} {c : Cfg} {q q1 q2 qe : Q} {tg e elt iter : Expr} {es ifs : List Expr} {p p2 p3 pos : Pos} {f fe : Env → R D} {ft : Env → R Bool} {fi : Env → R (List D)} {fs : Env → R (List D)} {σ : St} {H H1 : Hp} {ρ : Env} {own : Ow}
  {h : D → Env → Option Env} {hs : List D → Env → Option Env} {ts ts' : List Nat}
theorem Gd.setz {i : Nat} {d : D} {v : V} {F : List Addr} (g : Gd c σ H ρ own) (hk : c.kd i = .z) (r : Rp c.cm H v d F) (hz : ∀ a ∈ F, c.B a ∧ ∀ j, a ∉ own j) : Gd c (σ.set i (some v)) H (ρ.set i (some d)) own where
  len := by rw [List.length_set, List.length_set]; exact g.len
  base := g.base
  dom := g.dom
  ownB := g.ownB
  ownN := g.ownN
  ownM := g.ownM
  disj := g.disj
  zer := by rw [List.length_set]; exact g.zer
  sp := by rw [List.length_set]; exact g.sp
  lk := g.lk
  slot := fun j d' hj => by
    by_cases e : i = j
    · subst e
      by_cases hl : i < ρ.length
      · rw [List.getElem?_set_self hl] at hj
        cases hj
        refine ⟨v, F, List.getElem?_set_self (by rw [← g.len]; exact hl), r, ?_⟩
        unfold SOk; rw [hk]; exact hz
      · rw [List.getElem?_eq_none (by rw [List.length_set]; omega)] at hj; cases hj
    · rw [List.getElem?_set_ne e] at hj
      obtain ⟨v', F', h1, h2, h3⟩ := g.slot j d' hj
      exact ⟨v', F', by rw [List.getElem?_set_ne e]; exact h1, h2, h3⟩
theorem dg_name {i : Nat} {x : Str} (hk : c.kd i = .z) (hN : X.N.Nodup) (hi : X.N[i]? = some x) (hx : Loc X.env.scope x) (hf : X.fn x = true ∨ X.env.scope.names.lookup x = some .local) : DG X c (.Name x pos) (tgName i) [i] :=
  ⟨fun pins s σ H v u P I r ⟨ρ, own, d, F, g, rr, hz, ρ', e, k⟩ => (pg_name hN hi hx hf).run pins s σ H v u P I r (by
    cases e
    exact k _ (g.setz hk rr hz) fun vs hv => wipe_set σ i _ vs (hv i List.mem_cons_self))⟩
theorem dgs_nil : DGs X c [] tgNil [] := ⟨fun pins s σ H vs us P I r ⟨ρ, own, ds, F, g, rr, hz, ρ', e, k⟩ => pgs_nil.run pins s σ H vs us P I r (by
    cases ds with
    | nil => cases rr; cases e; exact ⟨rfl, k σ g fun _ _ => rfl⟩
    | cons d ds => cases e)⟩
theorem dgs_cons (h1 : DG X c e h ts) (h2 : DGs X c es hs ts') (hq : (assignEach (e :: es) X.env).map (·.2) = assign e X.env :: (assignEach es X.env).map (·.2)) : DGs X c (e :: es) (tgCons h hs) (ts ++ ts') :=
  ⟨fun pins s σ H vs us P I r ⟨ρ, own, ds, F, g, rr, hz, ρ', e', k⟩ => (pgs_cons h1 h2 hq).run pins s σ H vs us P I r (by
    cases ds with
    | nil => cases e'
    | cons d ds =>
      cases rr with
      | cons r1 r2 =>
        obtain ⟨ρ1, e1, e2⟩ := Option.bind_eq_some_iff.mp e'
        exact ⟨_, _, rfl, ρ, own, d, _, g, r1, fun a ha => hz a (List.mem_append_left _ ha), ρ1, e1, fun σ1 g1 w1 => ⟨ρ1, own, ds, _, g1, r2, fun a ha => hz a (List.mem_append_right _ ha), ρ', e2, fun σ2 g2 w2 =>
          k σ2 g2 fun vs' hv => (w2 vs' fun t ht => hv t (List.mem_append_right _ ht)).trans (w1 vs' fun t ht => hv t (List.mem_append_left _ ht))⟩⟩)⟩
theorem dg_tup {k n : Nat} (hc : X.calm = true) (h1 : DGs X c es hs ts) (hn : (assignEach es X.env).length = n) (hst : (assignEach es X.env).findIdx? (·.1) = none) : DG X c (.Tuple es k pos) (tgTup n hs) ts :=
  ⟨fun pins s σ H v u P I r ⟨ρ, own, d, F, g, rr, hz, ρ', e, k'⟩ => (pg_tup hc h1 hn hst).run pins s σ H v u P I r (by
    unfold tgTup at e
    split at e
    · split at e
      · rename_i hl
        cases rr with
        | tup e1 rs => exact ⟨_, _, rfl, .of e1, by rw [rs.length]; exact hl, ρ, own, _, F, g, rs, hz, ρ', e, k'⟩
      · cases e
    · cases e)⟩
/-! ### comprehensions -/
def Cfg.nox (c : Cfg) : Cfg := { c with W := fun _ _ _ _ => False }
theorem Gd.nox (g : Gd c σ H ρ own) : Gd c.nox σ H ρ own := ⟨g.len, g.base, g.dom, g.ownB, g.ownN, g.ownM, g.disj, g.zer, g.sp, g.lk, g.slot⟩
theorem Gd.unnox (g : Gd c.nox σ H ρ own) : Gd c σ H ρ own := ⟨g.len, g.base, g.dom, g.ownB, g.ownN, g.ownM, g.disj, g.zer, g.sp, g.lk, g.slot⟩
def wipeE (ρ : Env) : List Nat → Env
  | [] => ρ
  | v :: vs => (wipeE ρ vs).set v none
theorem Gd.wipe1 {i : Nat} (g : Gd c σ H ρ own) : Gd c (σ.set i none) H (ρ.set i none) own where
  len := by rw [List.length_set, List.length_set]; exact g.len
  base := g.base
  dom := g.dom
  ownB := g.ownB
  ownN := g.ownN
  ownM := g.ownM
  disj := g.disj
  zer := by rw [List.length_set]; exact g.zer
  sp := by rw [List.length_set]; exact g.sp
  lk := g.lk
  slot := fun j d' hj => by
    by_cases e : i = j
    · subst e
      by_cases hl : i < ρ.length
      · rw [List.getElem?_set_self hl] at hj; cases hj
      · rw [List.getElem?_eq_none (by rw [List.length_set]; omega)] at hj; cases hj
    · rw [List.getElem?_set_ne e] at hj
      obtain ⟨v', F', h1, h2, h3⟩ := g.slot j d' hj
      exact ⟨v', F', by rw [List.getElem?_set_ne e]; exact h1, h2, h3⟩
theorem Gd.wipe (g : Gd c σ H ρ own) : ∀ vs : List Nat, Gd c (L2.wipe σ vs) H (wipeE ρ vs) own
  | [] => g
  | v :: vs => (Gd.wipe g vs).wipe1
/-- a new object is nobody's but ours, for a while -/
def Ow.put (own : Ow) (N : Nat) (D : Addr) : Ow := fun i => if i = N then [D] else own i
theorem Gd.tmp {Hh : Hp} {D : Addr} {o : HO} (g : Gd c σ H ρ own) (s : Same H Hh) (hD : H D = none) (ho : Hh D = some o) (hm : isMut o = true) : ∃ own', Gd c σ Hh ρ own' ∧ Ext H own Hh own' ∧ (∀ i, D ∈ own' i ∨ own' i = own i) ∧ (∃ N, D ∈ own' N) ∧ ∀ a, (∀ j, a ∉ own' j) → ∀ j, a ∉ own j := by
  obtain ⟨N, hN, hsp⟩ := g.sp
  have mem : ∀ {i : Nat} {a : Addr}, a ∈ own.put N D i → (i = N ∧ a = D) ∨ (i ≠ N ∧ a ∈ own i) := fun {i a} h => by
    unfold Ow.put at h
    split at h
    · exact .inl ⟨by assumption, by simpa using h⟩
    · exact .inr ⟨by assumption, h⟩
  have nD : ∀ i, D ∉ own i := g.newOwn hD
  have sub : ∀ {i : Nat} {a : Addr}, a ∈ own i → a ∈ own.put N D i := fun {i a} h => by
    unfold Ow.put
    split
    · rename_i e; rw [e, hsp N (Nat.le_refl _)] at h; cases h
    · exact h
  refine ⟨own.put N D, ⟨g.len, fun b o h n => s b o (g.base b o h n), fun b h => Same.dom s b (g.dom b h), fun i a h => ?_, fun i a h => ?_, fun i a h => ?_, fun i j a h h' => ?_, fun i hi hk => ?_, ⟨N + 1, by omega, fun i hi => ?_⟩, fun a hl => ⟨Same.dom s a (g.lk a hl).1, fun j z => (mem z).elim (fun w => (g.lk a hl).1 (by rw [w.2]; exact hD)) fun w => (g.lk a hl).2 j w.2⟩, fun i d h => ?_⟩, ⟨fun b o h n => s b o h, fun b h n j z => ?_, Same.dom s⟩, fun i => ?_, ⟨N, by unfold Ow.put; rw [if_pos rfl]; exact List.mem_cons_self⟩, fun a h j z => h j (sub z)⟩
  · rcases mem h with ⟨_, rfl⟩ | ⟨_, h⟩
    · exact g.newB hD
    · exact g.ownB i a h
  · rcases mem h with ⟨_, rfl⟩ | ⟨_, h⟩
    · exact .inl (g.new hD)
    · exact g.ownN i a h
  · rcases mem h with ⟨_, rfl⟩ | ⟨_, h⟩
    · exact ⟨o, ho, hm⟩
    · obtain ⟨o', e, m⟩ := g.ownM i a h
      exact ⟨o', s a o' e, m⟩
  · rcases mem h with ⟨e1, rfl⟩ | ⟨e1, h1⟩ <;> rcases mem h' with ⟨e2, e3⟩ | ⟨e2, h2⟩
    · rw [e1, e2]
    · exact absurd h2 (nD j)
    · subst e3; exact absurd h1 (nD i)
    · exact g.disj i j a h1 h2
  · unfold Ow.put
    rw [if_neg (by omega)]
    exact g.zer i hi hk
  · unfold Ow.put
    rw [if_neg (by omega)]
    exact hsp i (by omega)
  · obtain ⟨v, F, h1, h2, h3⟩ := g.slot i d h
    refine ⟨v, F, h1, h2.same s, ?_⟩
    have hi : i < ρ.length := (List.getElem?_eq_some_iff.mp h).1
    have oi : own.put N D i = own i := by unfold Ow.put; rw [if_neg (by omega)]
    have nF : ∀ a ∈ F, a ≠ D := fun a ha e => h2.trk a ha (by rw [e]; exact hD)
    have nput : ∀ a ∈ F, (∀ j, a ∉ own j) → ∀ j, a ∉ own.put N D j := fun a ha hn j z => (mem z).elim (fun w => nF a ha w.2) fun w => hn j w.2
    unfold SOk at h3 ⊢
    revert h3
    cases c.kd i with
    | z => exact fun h3 a ha => ⟨(h3 a ha).1, nput a ha (h3 a ha).2⟩
    | l => exact fun h3 => ⟨fun a ha => ⟨(h3.1 a ha).1, nput a ha (h3.1 a ha).2⟩, h3.2⟩
    | m => exact fun h3 => ⟨h3.1, by rw [oi]; exact h3.2.1, h3.2.2⟩
    | r => exact fun ⟨a, F', e1, e2, e3, e4⟩ => ⟨a, F', e1, e2, by rw [oi]; exact e3, fun b hb => ⟨(e4 b hb).1, nput b (by rw [e2]; exact List.mem_cons_of_mem _ hb) (e4 b hb).2⟩⟩
  · rcases mem z with ⟨_, rfl⟩ | ⟨_, z⟩
    · exact h hD
    · exact n j z
  · unfold Ow.put
    split
    · exact .inl List.mem_cons_self
    · exact .inr rfl
def lcGo (tg : D → Env → Option Env) (ft : Env → R Bool) (fe : Env → R D) (ρw : Env) : List D → R (List D)
  | [] => .ok []
  | d :: ds => match tg d ρw with
    | none => .no
    | some ρ1 => match ft ρ1 with
      | .ok true => match fe ρ1 with
        | .ok y => match lcGo tg ft fe ρw ds with
          | .ok ys => .ok (y :: ys)
          | _ => .no
        | _ => .no
      | .ok false => lcGo tg ft fe ρw ds
      | _ => .no
def fLc (fi : Env → R (List D)) (tg : D → Env → Option Env) (ft : Env → R Bool) (fe : Env → R D) (vs : List Nat) : Env → R D := fun ρ => match fi ρ with
  | .ok ds => if ds.length ≤ SZ then (match lcGo tg ft fe (wipeE ρ vs) ds with
    | .ok ys => .ok (.lst ys)
    | _ => .no) else .no
  | .exc x => .exc x
  | .no => .no
def tTrue : Env → R Bool := fun _ => .ok true
abbrev DTs (X : Cx) (c : Cfg) (es : List Expr) (f : Env → R Bool) : Prop := PTs X es (rdT c f)
theorem dts_nil : DTs X c [] tTrue := ⟨fun pins s σ H P I ⟨ρ, own, g, o⟩ => pts_nil.run pins s σ H P I (o true H [] (Same.refl H) ⟨rfl, rfl⟩ .nil)⟩
theorem dts_one (ha : DT X c e ft) : DTs X c [e] ft := pts_one ha
inductive Qz : Q → Prop
  | z : Qz .z
  | n : Qz (.n [])
theorem Qz.j (h : Qz q) : Qj q q q := by
  cases h with
  | z => exact .z
  | n => exact .n0
theorem lc_core' {P : VK} (hqe : Qz q) {vs : List Nat} (hts : ∀ t ∈ ts, t ∈ vs) (hh : rd c q (fLc fi h ft fe vs) σ H P) : tLc (rdI c fi) (rdG c.nox h ts) (rdT c.nox ft) (rd c.nox q fe) vs σ H P := by
  obtain ⟨ρ, own, g, o⟩ := hh
  unfold fLc at o
  refine ⟨ρ, own, g, ?_⟩
  cases hf : fi ρ with
  | no => rw [hf] at o; exact o
  | exc x => rw [hf] at o; exact o
  | ok ds =>
    rw [hf] at o
    intro J H1 s1 it D hD
    have o1 : outR c q σ H own (Rp c.cm) (if ds.length ≤ SZ then (match lcGo h ft fe (wipeE ρ vs) ds with
      | .ok ys => .ok (.lst ys)
      | _ => .no) else .no) P := o
    by_cases hl : ds.length ≤ SZ
    · rw [if_pos hl] at o1
      cases hgo : lcGo h ft fe (wipeE ρ vs) ds with
      | no => rw [hgo] at o1; exact False.elim o1
      | exc x => rw [hgo] at o1; exact False.elim o1
      | ok all =>
        rw [hgo] at o1
        have g1 := g.same s1
        have hnd : ∀ {b : Addr} {o : HO}, H1 b = some o → b ≠ D := fun e => ne_of_none e hD
        have smD : Same H1 (upd H1 D (.lst [])) := upd_newSame hD
        refine ⟨fun i m Hh => m = ds.length - i ∧ i ≤ ds.length ∧ Same H1 Hh ∧ ∃ acc ys F rest, Hh D = some (.lst acc) ∧ Rps c.cm Hh acc ys F ∧ D ∉ F ∧ QOk c q H1 own F ∧ lcGo h ft fe (wipeE ρ vs) (ds.drop i) = .ok rest ∧ all = ys ++ rest ∧ acc.length ≤ i,
          ⟨ds.length, by simp, Nat.zero_le _, smD, [], [], [], all, upd_same, .nil, (fun z => nomatch z), .nil, hgo, rfl, Nat.le_refl _⟩, ?_⟩
        rintro i m Hh ⟨rfl, hi, sh, acc, ys, F, rest, hHD, rr, hDF, kq, hrest, hall, hacc⟩
        obtain ⟨own2, gh, x, _, ⟨N, hDN⟩, hsub⟩ := g1.tmp sh hD hHD rfl
        by_cases hlt : i < ds.length
        · refine .inr ⟨it.go i Hh own2 _ x gh.ownM (List.getElem?_eq_getElem hlt), fun H' => i + 1 ≤ ds.length ∧ Same H1 H' ∧ ∃ acc ys F rest, H' D = some (.lst acc) ∧ Rps c.cm H' acc ys F ∧ D ∉ F ∧ QOk c q H1 own F ∧ lcGo h ft fe (wipeE ρ vs) (ds.drop (i + 1)) = .ok rest ∧ all = ys ++ rest ∧ acc.length ≤ i + 1,
            fun H' ⟨a1, a2⟩ => ⟨ds.length - (i + 1), by omega, rfl, a1, a2⟩, fun y H2 hy => ?_⟩
          obtain ⟨s2, Fy, ry, zy⟩ := it.yld i Hh own2 _ y H2 x gh.ownM (List.getElem?_eq_getElem hlt) hy
          rw [List.drop_eq_getElem_cons hlt] at hrest
          unfold lcGo at hrest
          cases htg : h ds[i] (wipeE ρ vs) with
          | none => simp only [htg] at hrest; cases hrest
          | some ρ1 =>
            simp only [htg] at hrest
            refine ⟨wipeE ρ vs, own2, ds[i], Fy, ((gh.same s2).wipe vs).nox, ry, zy, ρ1, htg, fun σ2 g2 w2 => ⟨(w2 vs hts).trans (wipe_wipe σ vs), ρ1, own2, g2, ?_⟩⟩
            cases hft : ft ρ1 with
            | no => simp only [hft] at hrest; cases hrest
            | exc x => simp only [hft] at hrest; cases hrest
            | ok b =>
              simp only [hft] at hrest
              rintro b' H3 F3 s3 ⟨rfl, rfl⟩ _
              cases b' with
              | false =>
                rw [if_neg Bool.false_ne_true]
                exact ⟨hlt, (sh.trans s2).trans s3, acc, ys, F, rest, s3 _ _ (s2 _ _ hHD), (rr.same s2).same s3, hDF, kq, hrest, hall, Nat.le_succ_of_le hacc⟩
              | true =>
                rw [if_pos rfl]
                refine ⟨ρ1, own2, g2.same s3, ?_⟩
                cases hfe : fe ρ1 with
                | no => simp only [hfe] at hrest; cases hrest
                | exc x => simp only [hfe] at hrest; cases hrest
                | ok yd =>
                  simp only [hfe] at hrest
                  intro v H4 F4 s4 r4 k4
                  cases hlc : lcGo h ft fe (wipeE ρ vs) (ds.drop (i + 1)) with
                  | no => simp only [hlc] at hrest; cases hrest
                  | exc x => simp only [hlc] at hrest; cases hrest
                  | ok zs =>
                    simp only [hlc] at hrest
                    cases hrest
                    have s24 := (s2.trans s3).trans s4
                    have kDF : D ∉ F4 := fun hz => by
                      have hD3 : H3 D ≠ none := by rw [s3 _ _ (s2 _ _ hHD)]; exact Option.some_ne_none _
                      revert k4
                      cases hqe with
                      | z => exact fun k4 => (k4 D hz).2 N hDN
                      | n => exact fun k4 => (k4.2 D hz).elim (fun z => hD3 z) fun ⟨_, z, _⟩ => nomatch z
                    have k4' : QOk c q H3 own F4 := by
                      revert k4
                      cases hqe with
                      | z => exact fun k4 a ha => ⟨(k4 a ha).1, hsub a (k4 a ha).2⟩
                      | n => exact fun k4 => ⟨k4.1, fun a ha => (k4.2 a ha).imp id fun ⟨_, z, _⟩ => nomatch z⟩
                    refine ⟨acc, s24 _ _ hHD, Nat.lt_of_le_of_lt hacc (Nat.lt_of_lt_of_le hlt (Nat.le_trans hl SZ_le)), hlt, ?_, acc ++ [v], ys ++ [yd], F ++ F4, zs, upd_same, ?_, ?_, ?_, by first | exact hlc | rfl, by simp [hall], by simp; omega⟩
                    · exact fun b ob e => by
                        rw [upd_ne (hnd e)]
                        exact s24 _ _ (sh b ob e)
                    · have q1 := (rr.same s24).append (.one r4)
                      refine q1.mono fun b ob e z => ?_
                      have hbD : b ≠ D := by
                        rintro rfl
                        rcases z with z | z
                        · exact (List.mem_append.mp z).elim hDF kDF
                        · rw [s24 _ _ hHD] at e; cases e; cases z
                      rw [upd_ne hbD]; exact e
                    · exact fun z => (List.mem_append.mp z).elim hDF kDF
                    · exact kq.join hqe.j g1 (sh.trans (s2.trans s3)) (fun a ha => by have := rr.trk a ha; exact Same.dom (s2.trans s3) a this) k4'
        · have hie : i = ds.length := by omega
          subst hie
          refine .inl ⟨it.stop _ Hh own2 x gh.ownM (Nat.le_refl _), ?_⟩
          rw [List.drop_length] at hrest
          cases hrest
          rw [List.append_nil] at hall
          subst hall
          refine o1 (.ref D) Hh (D :: F) (s1.trans sh) (.lst hHD rr) ?_
          have dd : Der H1 F (D :: F) := .cons hD (List.Sublist.refl _)
          cases q with
          | b => exact fun a ha => (List.mem_cons.mp ha).elim (fun e => by subst e; exact g1.newB hD) (kq a)
          | z => exact fun a ha => (List.mem_cons.mp ha).elim (fun e => by subst e; exact ⟨g1.newB hD, g1.newOwn hD⟩) (kq a)
          | n S => exact ⟨List.nodup_cons.mpr ⟨hDF, kq.1⟩, fun a ha => (List.mem_cons.mp ha).elim (fun e => by subst e; exact .inl (s1.free hD)) fun z => (kq.2 a z).imp (fun w => s1.free w) id⟩
    · rw [if_neg hl] at o1
      exact False.elim o1
theorem de_lc {scope : Scope} {own : List (Str × Nat)} (hc : X.calm = true) (hN : X.N.Nodup) (hqz : Qz q) (hi : DI X c tg iter fi) (ok : BlkOk X.N X.env.scope scope own)
    (hg : ∀ (s : Shared) (H : Hp) (C : Addr) (cl : List (Str × Addr)) (fp : List Addr), DG (X.blk s H scope (compEnvC scope cl C X.env) fp) c.nox tg h ts)
    (ht : ∀ (s : Shared) (H : Hp) (C : Addr) (cl : List (Str × Addr)) (fp : List Addr), DTs (X.blk s H scope (compEnvC scope cl C X.env) fp) c.nox ifs ft)
    (he : ∀ (s : Shared) (H : Hp) (C : Addr) (cl : List (Str × Addr)) (fp : List Addr), DE (X.blk s H scope (compEnvC scope cl C X.env) fp) c.nox q elt fe)
    (hs : ∀ x, foldedSetIterable iter X.env x = pure x) (hts : ∀ t ∈ ts, t ∈ own.map (·.2)) :
    DE X c q (.ListComp elt [⟨tg, iter, ifs, 0⟩] scope pos) (fLc fi h ft fe (own.map (·.2))) :=
  PE.imp (pe_lc hc hN hi ok hg ht he hs) fun σ H P z => lc_core' hqz hts z
end
end Pd
set_option Elab.async false
set_option linter.all false
set_option maxRecDepth 100000
set_option maxHeartbeats 4000000
namespace Pd
open PySem L2
/-! ### statements -/
def SR.then (r : SR) (k : Env → SR) : SR := match r with
  | .nx ρ => k ρ
  | r => r
def sNil : Env → SR := fun ρ => .nx ρ
def sSeq (a b : Env → SR) : Env → SR := fun ρ => (a ρ).then b
def sBrk : Env → SR := fun ρ => .bk ρ
def sCnt : Env → SR := fun ρ => .ct ρ
def sRet (f : Env → R D) : Env → SR := fun ρ => match f ρ with
  | .ok d => .rt d ρ
  | .exc x => .ex x ρ
  | .no => .no
def sExp (f : Env → R D) : Env → SR := fun ρ => match f ρ with
  | .ok _ => .nx ρ
  | .exc x => .ex x ρ
  | .no => .no
def sIf (t : Env → R Bool) (a b : Env → SR) : Env → SR := fun ρ => match t ρ with
  | .ok true => a ρ
  | .ok false => b ρ
  | .exc x => .ex x ρ
  | .no => .no
def sSet (i : Nat) (f : Env → R D) : Env → SR := fun ρ => match f ρ with
  | .ok d => .nx (ρ.set i (some d))
  | .exc x => .ex x ρ
  | .no => .no
def isRoot : D → Bool
  | .lst _ => true
  | .ins _ _ _ => true
  | _ => false
def sSetR (i : Nat) (f : Env → R D) : Env → SR := fun ρ => match f ρ with
  | .ok d => if isRoot d = true then .nx (ρ.set i (some d)) else .no
  | .exc x => .ex x ρ
  | .no => .no
def sAsg (f : Env → R D) (h : D → Env → Option Env) : Env → SR := fun ρ => match f ρ with
  | .ok d => match h d ρ with
    | some ρ' => .nx ρ'
    | none => .no
  | .exc x => .ex x ρ
  | .no => .no
def sRaise (x : Str) : Env → SR := fun ρ => .ex x ρ
section
variable {X : Cx} {c : Cfg} {q qa : Q} {tg e iter : Expr} {st : Stmt} {a b sts body : List Stmt} {p pos : Pos} {f fe : Env → R D} {ft : Env → R Bool} {fi fs : Env → R (List D)} {σ : St} {H H1 : Hp} {ρ : Env} {own : Ow} {g g' : Env → SR}
  {h : D → Env → Option Env} {ts : List Nat} {i : Nat} {x : Str}
theorem outS.later {own1 : Ow} {r : SR} {Dn : Ends} (x : Ext H own H1 own1) (o : outS c H own r Dn) : outS c H1 own1 r Dn := by
  cases r with
  | nx ρ' => exact fun σ' H' own' g' x' => o σ' H' own' g' (x.trans x')
  | bk ρ' => exact fun σ' H' own' g' x' => o σ' H' own' g' (x.trans x')
  | ct ρ' => exact fun σ' H' own' g' x' => o σ' H' own' g' (x.trans x')
  | rt d ρ' => exact fun v σ' H' own' F g' x' => o v σ' H' own' F g' (x.trans x')
  | ex y ρ' => exact fun C dd σ' H' own' e g' x' => o C dd σ' H' own' e g' (x.trans x')
  | no => exact o
theorem dss_nil : DSs X c [] sNil := PSs.imp pss_nil fun D σ H ⟨ρ, own, gd, o⟩ => o σ H own gd .refl
theorem dss_cons (h1 : DS X c st g) (h2 : DSs X c sts g') : DSs X c (st :: sts) (sSeq g g') := PSs.imp (pss_cons h1 h2) fun D σ H ⟨ρ, own, gd, o⟩ => ⟨ρ, own, gd, by
  unfold sSeq at o
  revert o
  cases g ρ with
  | nx ρ' => exact fun o σ' H' own' g1 x1 => ⟨ρ', own', g1, outS.later x1 o⟩
  | bk ρ' => exact id
  | ct ρ' => exact id
  | rt d ρ' => exact id
  | ex y ρ' => exact id
  | no => exact id⟩
theorem dss_one (h1 : DS X c st g) : DSs X c [st] g := pss_one h1
theorem ds_break : DS X c (.Break pos) sBrk := PS.imp ps_break fun D σ H ⟨ρ, own, gd, o⟩ => o σ H own gd .refl
theorem ds_continue : DS X c (.Continue pos) sCnt := PS.imp ps_continue fun D σ H ⟨ρ, own, gd, o⟩ => o σ H own gd .refl
theorem ds_pass : DS X c (.Pass pos) sNil := PS.imp ps_pass fun D σ H ⟨ρ, own, gd, o⟩ => o σ H own gd .refl
theorem ds_doc {y : Str} {j : Nat} : DS X c (.Expr (.Constant (.str y) j pos) p) sNil := PS.imp ps_doc fun D σ H ⟨ρ, own, gd, o⟩ => o σ H own gd .refl
theorem ds_if {te : Expr} (ht : DT X c te ft) (ha : DSs X c a g) (hb : DSs X c b g') : DS X c (.If te a b pos) (sIf ft g g') := PS.imp (ps_if ht ha hb) fun D σ H ⟨ρ, own, gd, o⟩ => ⟨ρ, own, gd, by
  unfold sIf at o
  revert o
  cases hf : ft ρ with
  | no => exact id
  | exc y => exact fun o C dd H' e s => o C dd σ H' own e (gd.same s) (.ofSame s)
  | ok b =>
    rintro o d H1 F s ⟨rfl, rfl⟩ _
    cases d with
    | true => exact ⟨ρ, own, gd.same s, outS.later (.ofSame s) o⟩
    | false => exact ⟨ρ, own, gd.same s, outS.later (.ofSame s) o⟩⟩
/-- the quality that a returned value wants -/
def RtQ (c : Cfg) (q : Q) : Prop := c.fr = true → ∃ S, q = .n S ∧ (((∀ a, ¬ c.io a) ∧ ∀ i, c.pin i = none) ∨ S = [])
theorem RtQ.rq {F : List Addr} (hq : RtQ c q) (gd : Gd c σ H ρ own) (k : QOk c q H own F) : RQ c own F := by
  unfold RQ
  split
  · rename_i hf
    obtain ⟨S, rfl, hio⟩ := hq hf
    rcases hio with ⟨hio, hp⟩ | rfl
    · exact ⟨k.1, fun a ha => (k.2 a ha).elim (fun z => gd.new z) fun ⟨i, _, z⟩ => (gd.ownN i a z).resolve_right (hio a), fun i hi => absurd (hp i) hi⟩
    · have nw : ∀ a ∈ F, H a = none := fun a ha => (k.2 a ha).elim id fun ⟨_, z, _⟩ => nomatch z
      exact ⟨k.1, fun a ha => gd.new (nw a ha), fun i _ a ha => gd.newOwn (nw a ha) i⟩
  · exact k.b gd
theorem ds_ret (hq : RtQ c q) (he : DE X c q e f) : DS X c (.Return (some e) pos) (sRet f) := PS.imp (ps_ret he) fun D σ H ⟨ρ, own, gd, o⟩ => ⟨ρ, own, gd, by
  unfold sRet at o
  revert o
  cases f ρ with
  | no => exact id
  | exc y => exact fun o C dd H' e s => o C dd σ H' own e (gd.same s) (.ofSame s)
  | ok d => exact fun o v H1 F s r k => o v σ H1 own F (gd.same s) (.ofSame s) r (hq.rq gd k)⟩
theorem ds_retN : DS X c (.Return none pos) (sRet (fC .non)) := PS.imp ps_retN fun D σ H ⟨ρ, own, gd, o⟩ => o .non σ H own [] gd .refl .non (by unfold RQ; split <;> simp)
theorem ds_exp (he : DE X c q e f) (hs : swapsWith e none pos.line X.env = pure false) : DS X c (.Expr e pos) (sExp f) := PS.imp (ps_expr he hs) fun D σ H ⟨ρ, own, gd, o⟩ => ⟨ρ, own, gd, by
  unfold sExp at o
  revert o
  cases f ρ with
  | no => exact id
  | exc y => exact fun o C dd H' e s => o C dd σ H' own e (gd.same s) (.ofSame s)
  | ok d => exact fun o v H1 F s r k => o σ H1 own (gd.same s) (.ofSame s)⟩
/-- a slot takes over new data -/
theorem Gd.setOwn {Hs : Hp} {d : D} {v : V} {F : List Addr} {own' : List Addr} (hpin : c.pin i = none) (gd : Gd c σ Hs ρ own) (s : Same Hs H) (hk : (c.kd i).still ≠ true) (r : Rp c.cm H v d F) (sub : ∀ a ∈ own', a ∈ F) (hF : ∀ a ∈ F, Hs a = none) (hM : ∀ a ∈ own', ∃ o, H a = some o ∧ isMut o = true)
    (ok : match c.kd i with
      | .z => False
      | .l => False
      | .m => F.Nodup ∧ F = own'
      | .r => ∃ a F', v = .ref a ∧ F = a :: F' ∧ own' = [a] ∧ ∀ b ∈ F', b ≠ a) :
    ∃ own2, Gd c (σ.set i (some v)) H (ρ.set i (some d)) own2 ∧ ∀ a j, a ∈ own2 j → a ∈ own j ∨ a ∈ F := by
  have gs := gd.same s
  by_cases hi : i < ρ.length
  · have mem : ∀ {j : Nat} {a : Addr}, a ∈ (fun j => if j = i then own' else own j : Ow) j → (j = i ∧ a ∈ own') ∨ (j ≠ i ∧ a ∈ own j) := fun {j a} h => by
      by_cases e : j = i
      · exact .inl ⟨e, by simpa [e] using h⟩
      · exact .inr ⟨e, by simpa [e] using h⟩
    have fr : ∀ a ∈ F, c.B a ∧ c.H0 a = none ∧ ∀ j, a ∉ own j := fun a ha => ⟨gd.newB (hF a ha), gd.new (hF a ha), gd.newOwn (hF a ha)⟩
    refine ⟨fun j => if j = i then own' else own j, ⟨by rw [List.length_set, List.length_set]; exact gd.len, gs.base, gs.dom, fun j a h => ?_, fun j a h => ?_, fun j a h => ?_, fun j k a h h' => ?_, fun j hj hkz => ?_, ?_, ?_, fun j d' hj => ?_⟩, fun a j h => ?_⟩
    · rcases mem h with ⟨_, h⟩ | ⟨_, h⟩
      · exact (fr a (sub a h)).1
      · exact gd.ownB j a h
    · rcases mem h with ⟨_, h⟩ | ⟨_, h⟩
      · exact .inl (fr a (sub a h)).2.1
      · exact gd.ownN j a h
    · rcases mem h with ⟨_, h⟩ | ⟨_, h⟩
      · exact hM a h
      · exact gs.ownM j a h
    · rcases mem h with ⟨e1, h1⟩ | ⟨e1, h1⟩ <;> rcases mem h' with ⟨e2, h2⟩ | ⟨e2, h2⟩
      · rw [e1, e2]
      · exact absurd h2 ((fr a (sub a h1)).2.2 k)
      · exact absurd h1 ((fr a (sub a h2)).2.2 j)
      · exact gd.disj j k a h1 h2
    · rw [List.length_set] at hj
      show (if j = i then own' else own j) = []
      rw [if_neg (fun e => hk (by rw [← e]; exact hkz))]
      exact gd.zer j hj hkz
    · obtain ⟨N, h1, h2⟩ := gd.sp
      rw [List.length_set]
      exact ⟨N, h1, fun j hj => by
        show (if j = i then own' else own j) = []
        rw [if_neg (by omega)]; exact h2 j hj⟩
    · refine fun a hl => ⟨(gs.lk a hl).1, fun j z => ?_⟩
      rcases mem z with ⟨_, z⟩ | ⟨_, z⟩
      · exact gd.newLk (hF a (sub a z)) hl
      · exact gd.ownLk z hl
    · by_cases e : i = j
      · subst e
        rw [List.getElem?_set_self hi] at hj
        cases hj
        refine ⟨v, F, List.getElem?_set_self (by rw [← gd.len]; exact hi), r, ?_⟩
        unfold SOk
        revert ok hk
        cases c.kd i with
        | z => exact fun h => absurd rfl h
        | l => exact fun h => absurd rfl h
        | m => exact fun _ ok => ⟨ok.1, by simpa using ok.2, fun u e => by rw [hpin] at e; cases e⟩
        | r =>
          rintro _ ⟨a, F', e1, e2, e3, e4⟩
          refine ⟨a, F', e1, e2, by simpa using e3, fun b hb => ?_⟩
          have hb' := fr b (by rw [e2]; exact List.mem_cons_of_mem _ hb)
          refine ⟨hb'.1, fun j z => ?_⟩
          rcases mem z with ⟨_, z⟩ | ⟨_, z⟩
          · rw [e3] at z
            exact e4 b hb (by simpa using z)
          · exact hb'.2.2 j z
      · rw [List.getElem?_set_ne e] at hj
        obtain ⟨v', F', h1, h2, h3⟩ := gd.slot j d' hj
        refine ⟨v', F', by rw [List.getElem?_set_ne e]; exact h1, h2.same s, ?_⟩
        have oj : (if j = i then own' else own j) = own j := if_neg (Ne.symm e)
        have nput : ∀ a ∈ F', (∀ k, a ∉ own k) → ∀ k, a ∉ (fun j => if j = i then own' else own j : Ow) k := fun a ha hn k z => (mem z).elim (fun w => h2.trk a ha (hF a (sub a w.2))) fun w => hn k w.2
        unfold SOk at h3 ⊢
        revert h3
        cases c.kd j with
        | z => exact fun h3 a ha => ⟨(h3 a ha).1, nput a ha (h3 a ha).2⟩
        | l => exact fun h3 => ⟨fun a ha => ⟨(h3.1 a ha).1, nput a ha (h3.1 a ha).2⟩, h3.2⟩
        | m => exact fun h3 => ⟨h3.1, h3.2.1.trans oj.symm, h3.2.2⟩
        | r => exact fun ⟨a, F2, e1, e2, e3, e4⟩ => ⟨a, F2, e1, e2, oj.trans e3, fun b hb => ⟨(e4 b hb).1, nput b (by rw [e2]; exact List.mem_cons_of_mem _ hb) (e4 b hb).2⟩⟩
    · rcases mem h with ⟨_, h⟩ | ⟨_, h⟩
      · exact .inr (sub a h)
      · exact .inl h
  · have e1 : σ.set i (some v) = σ := List.set_eq_of_length_le (Nat.le_trans (Nat.le_of_eq gd.len.symm) (Nat.le_of_not_lt hi))
    have e2 : List.set ρ i (some d) = ρ := List.set_eq_of_length_le (Nat.le_of_not_lt hi)
    rw [e1, e2]
    exact ⟨own, gs, fun a j h => .inl h⟩
theorem Rp.mutF {v : V} {d : D} {F : List Addr} {cm : Md} (r : Rp cm H v d F) : isRoot d = true → ∃ a F', v = .ref a ∧ F = a :: F' ∧ ∃ o, H a = some o ∧ isMut o = true := by
  cases r with
  | lst e r => exact fun _ => ⟨_, _, rfl, rfl, _, e, rfl⟩
  | dK e _ r => exact fun h => nomatch h
  | dT e _ r => exact fun h => nomatch h
  | ins e _ _ r => exact fun _ => ⟨_, _, rfl, rfl, _, e, rfl⟩
  | _ => exact fun h => nomatch h
mutual
theorem Rp.allMut {cm : Md} {v : V} {d : D} {F : List Addr} : Rp cm H v d F → ∀ a ∈ F, ¬ cm.lk a → ∃ o, H a = some o ∧ isMut o = true
  | .non, a, h, _ => nomatch h
  | .bl _, a, h, _ => nomatch h
  | .int _, a, h, _ => nomatch h
  | .str _, a, h, _ => nomatch h
  | .tup _ r, a, h, n => Rps.allMut r a h n
  | .lst e r, a, h, n => (List.mem_cons.mp h).elim (fun z => by subst z; exact ⟨_, e, rfl⟩) fun z => Rps.allMut r a z n
  | .frz e r, a, h, n => Rps.allMut r a h n
  | .dK e _ r, a, h, n => (List.mem_cons.mp h).elim (fun z => by subst z; exact ⟨_, e.un n, rfl⟩) fun z => Rps.allMut r a z n
  | .dT e _ r, a, h, n => (List.mem_cons.mp h).elim (fun z => by subst z; exact ⟨_, e.un n, rfl⟩) fun z => Rps.allMut r a z n
  | .ins e _ _ r, a, h, n => (List.mem_cons.mp h).elim (fun z => by subst z; exact ⟨_, e, rfl⟩) fun z => Rps.allMut r a z n
  | .exc _, a, h, n => nomatch h
theorem Rps.allMut {cm : Md} {v : List V} {d : List D} {F : List Addr} : Rps cm H v d F → ∀ a ∈ F, ¬ cm.lk a → ∃ o, H a = some o ∧ isMut o = true
  | .nil, a, h, n => nomatch h
  | .cons r s, a, h, n => (List.mem_append.mp h).elim (fun z => Rp.allMut r a z n) fun z => Rps.allMut s a z n
end
/-! ### a value given to a name -/
theorem setz_core {Dn : Ends} (hk : c.kd i = .z) (hh : rdS c (sSet i f) Dn σ H) : rd c .z f σ H fun x H1 => Dn.nx (σ.set i (some x)) H1 := by
  obtain ⟨ρ, own, gd, o⟩ := hh
  refine ⟨ρ, own, gd, ?_⟩
  unfold sSet at o
  revert o
  cases f ρ with
  | no => exact id
  | exc y => exact fun o C dd H' e s => o C dd σ H' own e (gd.same s) (.ofSame s)
  | ok d => exact fun o v H1 F s r k => o _ H1 own ((gd.same s).setz hk r k) (.ofSame s)
theorem setOwn_out {Dn : Ends} {v : V} {F : List Addr} {d : D} (hpin : c.pin i = none) (gd : Gd c σ H ρ own) (s : Same H H1) (r : Rp c.cm H1 v d F) (k : QOk c (.n []) H own F) (hk : c.kd i = .m ∨ (c.kd i = .r ∧ isRoot d = true))
    (o : ∀ σ' H' own', Gd c σ' H' (ρ.set i (some d)) own' → Ext H own H' own' → Dn.nx σ' H') : Dn.nx (σ.set i (some v)) H1 := by
  have hF : ∀ a ∈ F, H a = none := fun a ha => (k.2 a ha).elim id fun ⟨_, z, _⟩ => nomatch z
  have go : ∀ own', (∀ a ∈ own', a ∈ F) → (c.kd i).still ≠ true → (match c.kd i with
      | .z => False
      | .l => False
      | .m => F.Nodup ∧ F = own'
      | .r => ∃ a F', v = .ref a ∧ F = a :: F' ∧ own' = [a] ∧ ∀ b ∈ F', b ≠ a) → Dn.nx (σ.set i (some v)) H1 := fun own' sub hz ok => by
    obtain ⟨own2, g2, h2⟩ := gd.setOwn hpin s hz r sub hF (fun a ha => r.allMut a (sub a ha) (gd.newLk (hF a (sub a ha)))) ok
    exact o _ _ own2 g2 ⟨fun b ob e n => s b ob e, fun b hb n j z => (h2 b j z).elim (n j) fun w => hb (hF b w), Same.dom s⟩
  rcases hk with hk | ⟨hk, hr⟩
  · exact go F (fun _ z => z) (by rw [hk]; decide) (by rw [hk]; exact ⟨k.1, rfl⟩)
  · obtain ⟨a, F', e1, e2, _⟩ := r.mutF hr
    exact go [a] (fun b hb => by rw [e2]; rw [List.mem_singleton] at hb; rw [hb]; exact List.mem_cons_self) (by rw [hk]; decide) (by
      rw [hk]
      refine ⟨a, F', e1, e2, rfl, fun b hb e => ?_⟩
      have := k.1
      rw [e2, List.nodup_cons] at this
      exact this.1 (by rw [← e]; exact hb))
theorem setm_core {Dn : Ends} (hpin : c.pin i = none) (hk : c.kd i = .m) (hh : rdS c (sSet i f) Dn σ H) : rd c (.n []) f σ H fun x H1 => Dn.nx (σ.set i (some x)) H1 := by
  obtain ⟨ρ, own, gd, o⟩ := hh
  refine ⟨ρ, own, gd, ?_⟩
  unfold sSet at o
  revert o
  cases f ρ with
  | no => exact id
  | exc y => exact fun o C dd H' e s => o C dd σ H' own e (gd.same s) (.ofSame s)
  | ok d => exact fun o v H1 F s r k => setOwn_out hpin gd s r k (.inl hk) o
theorem setr_core {Dn : Ends} (hpin : c.pin i = none) (hk : c.kd i = .r) (hh : rdS c (sSetR i f) Dn σ H) : rd c (.n []) f σ H fun x H1 => Dn.nx (σ.set i (some x)) H1 := by
  obtain ⟨ρ, own, gd, o⟩ := hh
  refine ⟨ρ, own, gd, ?_⟩
  unfold sSetR at o
  revert o
  cases f ρ with
  | no => exact id
  | exc y => exact fun o C dd H' e s => o C dd σ H' own e (gd.same s) (.ofSame s)
  | ok d =>
    intro o v H1 F s r k
    have o' : outS c H own (if isRoot d = true then .nx (ρ.set i (some d)) else .no) Dn := o
    by_cases hr : isRoot d = true
    · rw [if_pos hr] at o'
      exact setOwn_out hpin gd s r k (.inr ⟨hk, hr⟩) o'
    · rw [if_neg hr] at o'
      exact False.elim o'
theorem ds_setz {pos' : Pos} (hk : c.kd i = .z) (hN : X.N.Nodup) (hi : X.N[i]? = some x) (hx : Loc X.env.scope x) (he : DE X c .z e f) (hs : swapsWith e (some (.Name x pos')) pos.line X.env = pure false) (hf : X.fn x = true ∨ X.env.scope.names.lookup x = some .local) :
    DS X c (.Assign [.Name x pos'] e pos) (sSet i f) := PS.imp (ps_set hN hi hx he hs hf) fun D σ H z => setz_core hk z
theorem ds_setm {pos' : Pos} (hpin : c.pin i = none) (hk : c.kd i = .m) (hN : X.N.Nodup) (hi : X.N[i]? = some x) (hx : Loc X.env.scope x) (he : DE X c (.n []) e f) (hs : swapsWith e (some (.Name x pos')) pos.line X.env = pure false) (hf : X.fn x = true ∨ X.env.scope.names.lookup x = some .local) :
    DS X c (.Assign [.Name x pos'] e pos) (sSet i f) := PS.imp (ps_set hN hi hx he hs hf) fun D σ H z => setm_core hpin hk z
theorem ds_setr {pos' : Pos} (hpin : c.pin i = none) (hk : c.kd i = .r) (hN : X.N.Nodup) (hi : X.N[i]? = some x) (hx : Loc X.env.scope x) (he : DE X c (.n []) e f) (hs : swapsWith e (some (.Name x pos')) pos.line X.env = pure false) (hf : X.fn x = true ∨ X.env.scope.names.lookup x = some .local) :
    DS X c (.Assign [.Name x pos'] e pos) (sSetR i f) := PS.imp (ps_set hN hi hx he hs hf) fun D σ H z => setr_core hpin hk z
theorem ds_asg (he : DE X c .z e f) (hg : DG X c tg h ts) (hs : swapsWithSole [tg] e pos.line X.env = pure false) (hw : swappedStores [tg] e X.env = pure none) (h1 : (assignEach [tg] X.env).map (·.2) = [assign tg X.env]) : DS X c (.Assign [tg] e pos) (sAsg f h) :=
  PS.imp (ps_asg he hg hs hw h1) fun D σ H ⟨ρ, own, gd, o⟩ => ⟨ρ, own, gd, by
    unfold sAsg at o
    revert o
    cases f ρ with
    | no => exact id
    | exc y => exact fun o C dd H' e s => o C dd σ H' own e (gd.same s) (.ofSame s)
    | ok d =>
      intro o v H1 F s r k
      have o' : outS c H own (match h d ρ with
        | some ρ' => .nx ρ'
        | none => .no) D := o
      cases hd : h d ρ with
      | none => rw [hd] at o'; exact False.elim o'
      | some ρ' =>
        rw [hd] at o'
        exact ⟨ρ, own, d, F, gd.same s, r, k, ρ', hd, fun σ' g' _ => o' σ' H1 own g' (.ofSame s)⟩⟩
/-- a comprehension given to a name on the same line -/
theorem setLc_of {te : TE} {f : Env → R D} {G : TG} (h : PS X st (tAsg te G)) (k : ∀ σ H P, rd c q f σ H P → te σ H P) {gs : Env → SR} (kk : ∀ D σ H, rdS c gs D σ H → rd c q f σ H fun x H1 => G x σ H1 D.nx) : DS X c st gs := PS.imp h fun D σ H z => k _ _ _ (kk D σ H z)
end
end Pd
set_option Elab.async false
set_option linter.all false
set_option maxRecDepth 100000
set_option maxHeartbeats 4000000
namespace Pd
open PySem L2
/-! ### loops -/
def forD (h : D → Env → Option Env) (body : Env → SR) : List D → Env → SR
  | [], ρ => .nx ρ
  | d :: ds, ρ => match h d ρ with
    | none => .no
    | some ρ1 => match body ρ1 with
      | .nx ρ2 => forD h body ds ρ2
      | .ct ρ2 => forD h body ds ρ2
      | .bk ρ2 => .nx ρ2
      | .rt d ρ2 => .rt d ρ2
      | .ex x ρ2 => .ex x ρ2
      | .no => .no
def sFor (fi : Env → R (List D)) (h : D → Env → Option Env) (body : Env → SR) : Env → SR := fun ρ => match fi ρ with
  | .ok ds => forD h body ds ρ
  | .exc x => .ex x ρ
  | .no => .no
def whileD (t : Env → R Bool) (body : Env → SR) : Nat → Env → SR
  | 0, _ => .no
  | n + 1, ρ => match t ρ with
    | .ok true => match body ρ with
      | .nx ρ2 => whileD t body n ρ2
      | .ct ρ2 => whileD t body n ρ2
      | .bk ρ2 => .nx ρ2
      | .rt d ρ2 => .rt d ρ2
      | .ex x ρ2 => .ex x ρ2
      | .no => .no
    | .ok false => .nx ρ
    | .exc x => .ex x ρ
    | .no => .no
def sWhile (n : Nat) (t : Env → R Bool) (body : Env → SR) : Env → SR := whileD t body n
section
variable {X : Cx} {c : Cfg} {q qa qk : Q} {tg e ek iter : Expr} {st : Stmt} {a b sts body : List Stmt} {p pos apos cpos : Pos} {f fe fk : Env → R D} {ft : Env → R Bool} {fi fs : Env → R (List D)} {σ : St} {H H1 : Hp} {ρ : Env} {own : Ow} {g g' : Env → SR}
  {h : D → Env → Option Env} {ts : List Nat} {i : Nat} {x : Str}
theorem ds_for (hp : PassesOwn (model X.prog X.w) X.A X.env X.xe) (hc : X.calm = true) (hi : DI X c tg iter fi) (hg : DG X c tg h ts) (hb : DSs X c body g) (hs : ∀ x, foldedSetIterable iter X.env x = pure x) : DS X c (.For tg iter body [] pos) (sFor fi h g) :=
  PS.imp (ps_for hp hc hi hg hb hs) fun Dn σ H ⟨ρ, own, gd, o⟩ => ⟨ρ, own, gd, by
    unfold sFor at o
    cases hf : fi ρ with
    | no => rw [hf] at o; exact o
    | exc y => rw [hf] at o; exact fun C dd H' e s => o C dd σ H' own e (gd.same s) (.ofSame s)
    | ok ds =>
      rw [hf] at o
      have o : outS c H own (forD h g ds ρ) Dn := o
      intro J H1 s1 it
      refine ⟨fun i m σ' H' => m = ds.length - i ∧ i ≤ ds.length ∧ ∃ ρi own', Gd c σ' H' ρi own' ∧ Ext H1 own H' own' ∧ outS c H' own' (forD h g (ds.drop i) ρi) Dn,
        ⟨ds.length, by simp, Nat.zero_le _, ρ, own, gd.same s1, .refl, outS.later (.ofSame s1) o⟩, ?_⟩
      rintro i m σ3 H3 ⟨rfl, hi, ρi, own3, g3, x3, o3⟩
      by_cases hlt : i < ds.length
      · refine .inr ⟨it.go i H3 own3 _ x3 g3.ownM (List.getElem?_eq_getElem hlt), fun σ' H' => i + 1 ≤ ds.length ∧ ∃ ρi own', Gd c σ' H' ρi own' ∧ Ext H1 own H' own' ∧ outS c H' own' (forD h g (ds.drop (i + 1)) ρi) Dn,
          fun σ' H' ⟨a1, a2⟩ => ⟨ds.length - (i + 1), by omega, rfl, a1, a2⟩, fun y H4 hy => ?_⟩
        obtain ⟨s4, F, ry, zy⟩ := it.yld i H3 own3 _ y H4 x3 g3.ownM (List.getElem?_eq_getElem hlt) hy
        rw [List.drop_eq_getElem_cons hlt] at o3
        unfold forD at o3
        cases hh : h ds[i] ρi with
        | none => rw [hh] at o3; exact False.elim o3
        | some ρ1 =>
          rw [hh] at o3
          refine ⟨ρi, own3, ds[i], F, g3.same s4, ry, zy, ρ1, hh, fun σ5 g5 _ => ⟨ρ1, own3, g5, ?_⟩⟩
          have x4 : Ext H3 own3 H4 own3 := .ofSame s4
          have o4 := outS.later x4 o3
          revert o4
          show outS c H4 own3 (match g ρ1 with
            | .nx ρ2 => forD h g (ds.drop (i + 1)) ρ2
            | .ct ρ2 => forD h g (ds.drop (i + 1)) ρ2
            | .bk ρ2 => .nx ρ2
            | .rt d ρ2 => .rt d ρ2
            | .ex x ρ2 => .ex x ρ2
            | .no => .no) Dn → _
          cases g ρ1 with
          | nx ρ2 => exact fun o4 σ' H' own' g' x' => ⟨hlt, ρ2, own', g', (x3.trans x4).trans x', outS.later x' o4⟩
          | ct ρ2 => exact fun o4 σ' H' own' g' x' => ⟨hlt, ρ2, own', g', (x3.trans x4).trans x', outS.later x' o4⟩
          | bk ρ2 => exact id
          | rt d ρ2 => exact id
          | ex y ρ2 => exact id
          | no => exact id
      · have hie : i = ds.length := by omega
        subst hie
        rw [List.drop_length] at o3
        exact .inl ⟨it.stop _ H3 own3 x3 g3.ownM (Nat.le_refl _), o3 σ3 H3 own3 g3 .refl⟩⟩
theorem ds_while {te : Expr} (n : Nat) (hp : PassesOwn (model X.prog X.w) X.A X.env X.xe) (ht : DT X c te ft) (hb : DSs X c body g) : DS X c (.While te body [] pos) (sWhile n ft g) :=
  PS.imp (ps_while hp ht hb) fun Dn σ H ⟨ρ, own, gd, o⟩ => by
    refine ⟨fun m σ' H' => ∃ ρi own', Gd c σ' H' ρi own' ∧ outS c H' own' (whileD ft g m ρi) Dn, ⟨n, ρ, own, gd, o⟩, ?_⟩
    rintro m σ3 H3 ⟨ρi, own3, g3, o3⟩
    cases m with
    | zero => exact False.elim o3
    | succ m =>
      unfold whileD at o3
      refine ⟨ρi, own3, g3, ?_⟩
      cases hf : ft ρi with
      | no => rw [hf] at o3; exact o3
      | exc y => rw [hf] at o3; exact fun C dd H' e s => o3 C dd σ3 H' own3 e (g3.same s) (.ofSame s)
      | ok b =>
        rw [hf] at o3
        rintro b' H4 F s4 ⟨rfl, rfl⟩ _
        have x4 : Ext H3 own3 H4 own3 := .ofSame s4
        have o4 := outS.later x4 o3
        cases b' with
        | false =>
          rw [if_neg Bool.false_ne_true]
          exact o4 σ3 H4 own3 (g3.same s4) .refl
        | true =>
          rw [if_pos rfl]
          refine ⟨fun σ' H' => ∃ ρi own', Gd c σ' H' ρi own' ∧ outS c H' own' (whileD ft g m ρi) Dn, fun σ' H' w => ⟨m, Nat.lt_succ_self m, w⟩, ρi, own3, g3.same s4, ?_⟩
          revert o4
          show outS c H4 own3 (match g ρi with
            | .nx ρ2 => whileD ft g m ρ2
            | .ct ρ2 => whileD ft g m ρ2
            | .bk ρ2 => .nx ρ2
            | .rt d ρ2 => .rt d ρ2
            | .ex x ρ2 => .ex x ρ2
            | .no => .no) Dn → _
          cases g ρi with
          | nx ρ2 => exact fun o4 σ' H' own' g' x' => ⟨ρ2, own', g', outS.later x' o4⟩
          | ct ρ2 => exact fun o4 σ' H' own' g' x' => ⟨ρ2, own', g', outS.later x' o4⟩
          | bk ρ2 => exact id
          | rt d ρ2 => exact id
          | ex y ρ2 => exact id
          | no => exact id
/-! ### an owned object is written -/
theorem Gd.write {Hs : Hp} {d' : D} {ad : Addr} {o' : HO} {F' L : List Addr} (gd : Gd c σ Hs ρ own) (s : Same Hs H) (hv : σ[i]? = some (some (.ref ad))) (hi : i < ρ.length) (ha : ad ∈ own i) (r : Rp c.cm (upd H ad o') (.ref ad) d' (ad :: F')) (hm : isMut o' = true)
    (hL : ∀ b ∈ L, b ∈ own i ∨ (Hs b = none ∧ b ∈ F')) (haL : ad ∈ L)
    (ok : match c.kd i with
      | .z => False
      | .l => False
      | .r => L = [ad] ∧ ∀ b ∈ F', c.B b ∧ ∀ j, b ∉ own j
      | .m => False) :
    ∃ own', Gd c σ (upd H ad o') (ρ.set i (some d')) own' ∧ Ext Hs own (upd H ad o') own' := by
  have gs := gd.same s
  have hk : (c.kd i).still ≠ true := fun e => by
    revert ok e
    cases c.kd i with
    | z => exact fun ok _ => ok
    | l => exact fun ok _ => ok
    | m => exact fun _ e => nomatch e
    | r => exact fun _ e => nomatch e
  have mem : ∀ {j : Nat} {a : Addr}, a ∈ (fun j => if j = i then L else own j : Ow) j → (j = i ∧ a ∈ L) ∨ (j ≠ i ∧ a ∈ own j) := fun {j a} h => by
    by_cases e : j = i
    · exact .inl ⟨e, by simpa [e] using h⟩
    · exact .inr ⟨e, by simpa [e] using h⟩
  have Ha : H ad ≠ none := by
    obtain ⟨o, e, _⟩ := gs.ownM i ad ha
    rw [e]; exact Option.some_ne_none _
  have keep : ∀ b o, H b = some o → b ≠ ad → upd H ad o' b = some o := fun b o e hb => by rw [upd_ne hb]; exact e
  have dom : ∀ b, H b ≠ none → upd H ad o' b ≠ none := fun b hb => by
    by_cases e : b = ad
    · subst e; rw [upd_same]; exact Option.some_ne_none _
    · rw [upd_ne e]; exact hb
  have other : ∀ {j : Nat} {a : Addr}, j ≠ i → a ∈ own j → a ≠ ad := fun {j a} hj h e => hj (gd.disj j i a h (by rw [e]; exact ha))
  have Lnot : ∀ {j : Nat} {a : Addr}, j ≠ i → a ∈ own j → a ∉ L := fun {j a} hj h z => by
    rcases hL a z with w | ⟨w, _⟩
    · exact hj (gd.disj j i a h w)
    · obtain ⟨o, e, _⟩ := gd.ownM j a h
      rw [w] at e; cases e
  refine ⟨fun j => if j = i then L else own j, ⟨by rw [List.length_set]; exact gd.len, fun b o h n => ?_, fun b h => dom b (gs.dom b h), fun j b h => ?_, fun j b h => ?_, fun j b h => ?_, fun j k b h h' => ?_, fun j hj hkz => ?_, ?_, fun a hl => ⟨dom a (gs.lk a hl).1, fun j z => (mem z).elim (fun w => (hL a w.2).elim (fun u => gd.ownLk u hl) fun u => gd.newLk u.1 hl) fun w => gd.ownLk w.2 hl⟩, fun j d hj => ?_⟩, ⟨fun b o h n => ?_, fun b h n j z => ?_, fun b h => dom b (Same.dom s b h)⟩⟩
  · refine keep b o (gs.base b o h n) fun e => ?_
    subst e
    rcases gd.ownN i b ha with z | z
    · rw [z] at h; cases h
    · exact n z
  · rcases mem h with ⟨_, h⟩ | ⟨_, h⟩
    · rcases hL b h with w | ⟨w, _⟩
      · exact gd.ownB i b w
      · exact gd.newB w
    · exact gd.ownB j b h
  · rcases mem h with ⟨_, h⟩ | ⟨_, h⟩
    · rcases hL b h with w | ⟨w, _⟩
      · exact gd.ownN i b w
      · exact .inl (gd.new w)
    · exact gd.ownN j b h
  · rcases mem h with ⟨_, h⟩ | ⟨hj, h⟩
    · by_cases e : b = ad
      · subst e; exact ⟨o', upd_same, hm⟩
      · rcases hL b h with w | ⟨_, w⟩
        · obtain ⟨o, e1, e2⟩ := gs.ownM i b w
          exact ⟨o, keep b o e1 e, e2⟩
        · exact r.allMut b (List.mem_cons_of_mem _ w) (gd.newLk (by assumption))
    · obtain ⟨o, e1, e2⟩ := gs.ownM j b h
      exact ⟨o, keep b o e1 (other hj h), e2⟩
  · rcases mem h with ⟨e1, h1⟩ | ⟨e1, h1⟩ <;> rcases mem h' with ⟨e2, h2⟩ | ⟨e2, h2⟩
    · rw [e1, e2]
    · exact absurd h1 (Lnot e2 h2)
    · exact absurd h2 (Lnot e1 h1)
    · exact gd.disj j k b h1 h2
  · rw [List.length_set] at hj
    show (if j = i then L else own j) = []
    rw [if_neg (fun e => hk (by rw [← e]; exact hkz))]
    exact gd.zer j hj hkz
  · obtain ⟨N, h1, h2⟩ := gd.sp
    rw [List.length_set]
    exact ⟨N, h1, fun j hj => by
      show (if j = i then L else own j) = []
      rw [if_neg (by omega)]; exact h2 j hj⟩
  · by_cases e : i = j
    · subst e
      rw [List.getElem?_set_self hi] at hj
      cases hj
      refine ⟨_, _, hv, r, ?_⟩
      unfold SOk
      revert ok
      cases c.kd i with
      | z => exact False.elim
      | l => exact False.elim
      | m => exact False.elim
      | r =>
        rintro ⟨e1, e2⟩
        refine ⟨ad, F', rfl, rfl, by simpa using e1, fun b hb => ⟨(e2 b hb).1, fun j z => ?_⟩⟩
        rcases mem z with ⟨_, z⟩ | ⟨_, z⟩
        · rw [e1, List.mem_singleton] at z
          subst z
          exact (e2 b hb).2 i ha
        · exact (e2 b hb).2 j z
    · rw [List.getElem?_set_ne e] at hj
      obtain ⟨v', F2, h1, h2, h3⟩ := gd.slot j d hj
      have oj : (if j = i then L else own j) = own j := if_neg (Ne.symm e)
      have nput : ∀ a ∈ F2, (∀ k, a ∉ own k) → ∀ k, a ∉ (fun j => if j = i then L else own j : Ow) k := fun a haF hn k z => (mem z).elim (fun w => (hL a w.2).elim (hn i) fun u => h2.trk a haF u.1) fun w => hn k w.2
      have noad : ad ∉ F2 := fun z => by
        unfold SOk at h3
        revert h3
        cases c.kd j with
        | z => exact fun h3 => (h3 ad z).2 i ha
        | l => exact fun h3 => (h3.1 ad z).2 i ha
        | m => exact fun h3 => other (Ne.symm e) (by rw [← h3.2.1]; exact z) rfl
        | r =>
          rintro ⟨a, F3, e1, e2, e3, e4⟩
          rw [e2] at z
          rcases List.mem_cons.mp z with z | z
          · exact other (Ne.symm e) (by rw [e3, z]; exact List.mem_cons_self) rfl
          · exact (e4 ad z).2 i ha
      refine ⟨v', F2, h1, (h2.same s).mono fun b o eb z => keep b o eb fun e' => ?_, ?_⟩
      · subst e'
        rcases z with z | z
        · exact noad z
        · obtain ⟨o2, e2, m2⟩ := gs.ownM i b ha
          rw [eb] at e2; cases e2; rw [z] at m2; cases m2
      · unfold SOk at h3 ⊢
        revert h3
        cases c.kd j with
        | z => exact fun h3 a ha => ⟨(h3 a ha).1, nput a ha (h3 a ha).2⟩
        | l => exact fun h3 => ⟨fun a ha => ⟨(h3.1 a ha).1, nput a ha (h3.1 a ha).2⟩, h3.2⟩
        | m => exact fun h3 => ⟨h3.1, h3.2.1.trans oj.symm, h3.2.2⟩
        | r => exact fun ⟨a, F3, e1, e2, e3, e4⟩ => ⟨a, F3, e1, e2, oj.trans e3, fun b hb => ⟨(e4 b hb).1, nput b (by rw [e2]; exact List.mem_cons_of_mem _ hb) (e4 b hb).2⟩⟩
  · refine keep b o (s b o h) fun e => ?_
    subst e
    exact n i ha
  · rcases mem z with ⟨_, z⟩ | ⟨_, z⟩
    · rcases hL b z with w | ⟨w, _⟩
      · exact n i w
      · exact h w
    · exact n j z
/-- an r-slot's root object gets new content, its items anybody's -/
theorem Gd.writeR {Hs : Hp} {d d' : D} {ad : Addr} {o' : HO} {F0 F' : List Addr} {v : V} (gd : Gd c σ Hs ρ own) (s : Same Hs H) (hk : c.kd i = .r) (hρ : ρ[i]? = some (some d)) (hσ : σ[i]? = some (some v)) (hr : Rp c.cm Hs v d F0) (hv : v = .ref ad) (sok : SOk c own i v F0)
    (r : Rp c.cm (upd H ad o') (.ref ad) d' (ad :: F')) (hm : isMut o' = true) (hF : ∀ b ∈ F', c.B b ∧ ∀ j, b ∉ own j) : ∃ own', Gd c σ (upd H ad o') (ρ.set i (some d')) own' ∧ Ext Hs own (upd H ad o') own' := by
  unfold SOk at sok
  rw [hk] at sok
  obtain ⟨a, F', e1, e2, e3, e4⟩ := sok
  subst hv
  cases e1
  exact gd.write s hσ (List.getElem?_eq_some_iff.mp hρ).1 (by rw [e3]; exact List.mem_cons_self) r hm (L := [ad]) (fun b hb => .inl (by rw [e3]; exact hb)) List.mem_cons_self (by rw [hk]; exact ⟨rfl, hF⟩)
/-! ### append -/
def sApp (i : Nat) (f : Env → R D) : Env → SR := fun ρ => match ρ[i]? with
  | some (some (.lst xs)) => match f ρ with
    | .ok y => if xs.length < SZ then .nx (ρ.set i (some (.lst (xs ++ [y])))) else .no
    | .exc x => .ex x ρ
    | .no => .no
  | _ => .no
theorem rootR {v : V} {d : D} {F : List Addr} {ad : Addr} (hk : c.kd i = .r) (sok : SOk c own i v F) (hv : v = .ref ad) : own i = [ad] ∧ ∃ G, F = ad :: G ∧ (∀ b ∈ G, c.B b ∧ ∀ j, b ∉ own j) ∧ ad ∉ G := by
  unfold SOk at sok
  rw [hk] at sok
  obtain ⟨a, F', e1, e2, e3, e4⟩ := sok
  subst hv
  cases e1
  exact ⟨e3, F', e2, e4, fun z => (e4 _ z).2 i (by rw [e3]; exact List.mem_cons_self)⟩
theorem ds_append (hk : c.kd i = .r) (hN : X.N[i]? = some x) (hv : Vis X.env.scope x) (hd : (x == ("__debug__" : Str)) = false) (hcd : (x == ("__classdict__" : Str)) = false) (he : DE X c .z e f)
    (hb : attributeBase (.Name x p) "append" X.env (eval (.Name x p) X.env) = eval (.Name x p) X.env)
    (hfew : ((backTo cpos (starEach [e] X.env)).all (fun x => !x.1) && (backToKw cpos (keywordEach [] X.env)).all (fun x => x.1.isSome) && decide ([e].length + ([] : List Keyword).length + (if ([] : List Keyword).isEmpty then 0 else 1) < 30)) = true)
    (hline : (apos.endLine == cpos.line) = true) (hst : starEach [e] X.env = (false, eval e X.env) :: starEach [] X.env) (hpl : (backTo cpos (starEach [] X.env)).any (·.1) = false)
    (hs : swapsWith (.Call (.Attribute (.Name x p) "append" apos) [e] [] cpos) none pos.line X.env = pure false) :
    DS X c (.Expr (.Call (.Attribute (.Name x p) "append" apos) [e] [] cpos) pos) (sApp i f) :=
  PS.imp (ps_expr (pe_bm PySem.F.plainAttrs_list PySem.F.slot_list_append PySem.F.type_list_append mt_append (pe_var hN hv hd hcd) (pa_cons he pa_nil hst) hb hfew hline hst hpl) hs) fun Dn σ H ⟨ρ, own, gd, o⟩ => by
    unfold sApp at o
    cases hρ : ρ[i]? with
    | none => rw [hρ] at o; exact False.elim o
    | some d0 =>
      rw [hρ] at o
      cases d0 with
      | none => exact False.elim o
      | some d =>
        cases d with
        | lst xs =>
          obtain ⟨v, F, hσ, r, sok⟩ := gd.slot i _ hρ
          obtain ⟨ad, vs, G, hv', hH, hF, rr⟩ := r.listed
          obtain ⟨ho, G', e1, hG, nG⟩ := rootR (d := .lst xs) hk sok hv'
          rw [hF] at e1
          cases e1
          refine ⟨v, hσ, by rw [hv']; exact .inl ⟨rfl, vs, .of hH⟩, ρ, own, gd, ?_⟩
          have o2 : outS c H own (match f ρ with
            | .ok y => if xs.length < SZ then .nx (ρ.set i (some (.lst (xs ++ [y])))) else .no
            | .exc x => .ex x ρ
            | .no => .no) Dn := o
          revert o2
          cases f ρ with
          | no => exact id
          | exc y => exact fun o C dd H' e s => o C dd σ H' own e (gd.same s) (.ofSame s)
          | ok y =>
            intro o2 u H1 Fy s1 ry ky
            have o3 : outS c H own (if xs.length < SZ then .nx (ρ.set i (some (.lst (xs ++ [y])))) else .no) Dn := o2
            by_cases hl : xs.length < SZ
            · rw [if_pos hl] at o3
              have had : ∀ j, ad ∈ own j → j = i := fun j z => gd.disj j i ad z (by rw [ho]; exact List.mem_cons_self)
              have nFy : ad ∉ Fy := fun z => (ky ad z).2 i (by rw [ho]; exact List.mem_cons_self)
              have rq := ((rr.same s1).append (.one ry)).mono (H' := upd H1 ad (.lst (vs ++ [u]))) fun b ob eb z => by
                rw [upd_ne (fun e => ?_)]; exact eb
                subst e
                rcases z with z | z
                · exact (List.mem_append.mp z).elim nG nFy
                · rw [s1 _ _ hH] at eb; cases eb; cases z
              obtain ⟨own', g', x'⟩ := gd.writeR s1 hk hρ hσ r hv' sok (.lst upd_same rq) rfl fun b hb => (List.mem_append.mp hb).elim (hG b) (ky b)
              exact ⟨ad, vs, u, hv', rfl, s1 _ _ hH, Nat.lt_of_lt_of_le (by rw [rr.length]; exact hl) SZ_le, o3 σ _ own' g' x'⟩
            · rw [if_neg hl] at o3
              exact False.elim o3
        | _ => exact False.elim o
end
end Pd
set_option Elab.async false
set_option linter.all false
set_option maxRecDepth 100000
set_option maxHeartbeats 4000000
namespace Pd
open PySem PySem.Spec PyProof.Rows L2
/-! ### defs -/
/-- what a def promises: from data to data; nothing that stood is changed -/
def spD (cm : Md) (n : Nat) (fr : Bool) (Fn : List D → R D) : Sp := fun vs H P E => vs.length = n ∧ (∀ a, cm.lk a → H a ≠ none) ∧ ∃ ds FF, Rps cm H vs ds FF ∧ match Fn ds with
  | .ok d => ∀ v H' G, Same H H' → Rp cm H' v d G → (if fr = true then G.Nodup ∧ ∀ a ∈ G, H a = none else ∀ a ∈ G, a ∈ FF ∨ H a = none) → P v H'
  | .exc x => ∀ C dd H', ClX cm x C dd → Same H H' → E (.ref C) dd H'
  | .no => False
def callD (np n : Nat) (g : Env → SR) : List D → R D := fun ds => if ds.length = np then (match g (ds.map some ++ List.replicate (n - ds.length) none) with
  | .rt d _ => .ok d
  | .nx _ => .ok .non
  | .ex x _ => .exc x
  | _ => .no) else .no
theorem ln_callD {np n : Nat} {g : Env → SR} : (∀ ds d, callD np n g ds = .ok d → ds.length = np) ∧ ∀ ds x, callD np n g ds = .exc x → ds.length = np := by
  refine ⟨fun ds d h => ?_, fun ds d h => ?_⟩ <;> (unfold callD at h; split at h <;> first | assumption | cases h)
def zKd : Nat → Kd := fun _ => .m
theorem spD_start {cm : Md} {kd : Nat → Kd} {fr : Bool} {n nN : Nat} {g : Env → SR} {vs : List V} {H : Hp} {P : VK} {E : XK} {N : List Str} (hN : N.length = nN) (hle : n ≤ nN) (hkp : ∀ i, i < n → kd i = .z)
    (h : spD cm n fr (callD n nN g) vs H P E) : ∃ c : Cfg, c.cm = cm ∧ c.kd = kd ∧ c.fr = fr ∧ c.W = (fun cls d _ H => E cls d H) ∧ (c.pin = fun _ => none) ∧ (∀ a, ¬ c.io a) ∧ rdS c g { nx := fun _ H' => P .non H', rt := P } (L2.start N vs) H := by
  obtain ⟨hl, hlk, ds, FF, r, h⟩ := h
  have hd := r.length
  refine ⟨⟨cm, kd, (· ∈ FF), H, fun _ => False, fun cls d _ H => E cls d H, fr, fun _ => none⟩, rfl, rfl, rfl, rfl, rfl, fun _ z => z, ds.map some ++ List.replicate (nN - ds.length) none, fun _ => [], ?_, ?_⟩
  · refine ⟨by unfold L2.start; simp [hN, hd], fun b o h _ => h, fun b h => h, (fun _ _ z => nomatch z), (fun _ _ z => nomatch z), (fun _ _ z => nomatch z), (fun _ _ _ z => nomatch z), fun _ _ _ => rfl, ⟨_, Nat.le_refl _, fun _ _ => rfl⟩, fun a hl => ⟨hlk a hl, fun _ z => nomatch z⟩, fun i d hi => ?_⟩
    by_cases hlt : i < ds.length
    · rw [List.getElem?_append_left (by simpa using hlt), List.getElem?_map] at hi
      cases hx : ds[i]? with
      | none => rw [hx] at hi; cases hi
      | some d' =>
        rw [hx] at hi
        cases hi
        obtain ⟨v, G, h1, h2, h3⟩ := r.get hx
        refine ⟨v, G, ?_, h2, ?_⟩
        · unfold L2.start
          rw [List.getElem?_append_left (by simp; omega), List.getElem?_map, h1]
          rfl
        · unfold SOk
          rw [show (⟨cm, kd, (· ∈ FF), H, fun _ => False, fun cls d _ H => E cls d H, fr, fun _ => none⟩ : Cfg).kd i = .z from hkp i (by omega)]
          exact fun a ha => ⟨.inl (h3.subset ha), fun _ z => nomatch z⟩
    · rw [List.getElem?_append_right (by simpa using hlt), List.getElem?_replicate] at hi
      split at hi <;> cases hi
  · have h : match callD n nN g ds with
      | .ok d => ∀ v H' G, Same H H' → Rp cm H' v d G → (if fr = true then G.Nodup ∧ ∀ a ∈ G, H a = none else ∀ a ∈ G, a ∈ FF ∨ H a = none) → P v H'
      | .exc x => ∀ C dd H', ClX cm x C dd → Same H H' → E (.ref C) dd H'
      | .no => False := h
    unfold callD at h
    rw [if_pos (by omega)] at h
    revert h
    cases g (ds.map some ++ List.replicate (nN - ds.length) none) with
    | nx ρ' => exact fun h σ' H' own' g' x' => h .non H' [] (fun b o e => g'.base b o e fun z => z) .non (by split <;> simp)
    | bk ρ' => exact fun h => False.elim h
    | ct ρ' => exact fun h => False.elim h
    | rt d ρ' => exact fun h v σ' H' own' F g' x' r' rq => h v H' F (fun b o e => g'.base b o e fun z => z) r' (by
      unfold RQ at rq
      revert rq
      show (if fr = true then _ else _) → (if fr = true then _ else _)
      split
      · exact fun rq => ⟨rq.1, rq.2.1⟩
      · exact id)
    | ex x ρ' => exact fun h C dd σ' H' own' e g' x' => h C dd H' e (fun b o e => g'.base b o e fun z => z)
    | no => exact fun h => False.elim h
section
variable {P : Program} {w : World} {K : PySem.W.Frag} {mg : Str → Option Value} {base : Heap}
abbrev mkC (cm : Md) (kd : Nat → Kd) (A : Addr → Prop) (H0 : Hp) (io : Addr → Prop) (E : XK) (fr : Bool) : Cfg := ⟨cm, kd, A, H0, io, fun cls d _ H => E cls d H, fr, fun _ => none⟩
/-- THE RULE for a def -/
theorem fn_ok {x qual : Str} {params : Arguments} {body : List Stmt} {scope : Scope} {dvs : List V} {kws : List (Str × V)} {f : Addr} {fd : FuncData} {N ps : List Str} {k : Nat} {cm : Md} {fr : Bool} {g : Env → SR} {kd : Nat → Kd} (F : FunD K x qual params body scope dvs kws f fd) (S : FnScope N ps scope)
    (hkp : ∀ i, i < ps.length → kd i = .z) (hle : ps.length ≤ N.length)
    (hb : ∀ (cdv : Value) (A : Around) (outer : List PySem.Env) (s : Shared) (H : Hp) (E : XK) (Ad : Addr → Prop) (H0 : Hp) (io : Addr → Prop), (∀ a, ¬ io a) → Room k (A.deeper (envOfC qual scope s.heap.objs.size f cdv)) →
      DSs (cxOf (L2.CX P w) P w K mg base N qual scope f cdv A outer s H E) (mkC cm kd Ad H0 io E fr) body g) : FnOk P w K mg base (L2.CX P w) (k + 1) f fd ps (spD cm ps.length fr (callD ps.length N.length g)) := by
  refine F.ok S (fun vs H P E h => h.1) fun cdv A outer s H vs P E hr h => ?_
  obtain ⟨⟨cm', kd', A', H0', io', W', fr', pin'⟩, h1, h2, h3, h4, h7, h5, h6⟩ := spD_start (N := N) (kd := kd) rfl hle hkp h
  cases h1; cases h2; cases h3; cases h4; cases h7
  exact ⟨_, hb cdv A outer s H E A' H0' io' h5 hr, h6⟩
/-- the law's own def: nothing is let out -/
theorem fn_law {fa : Addr} {fd : FuncData} {ps : List Str} {k : Nat} {sp sp0 : Sp} (F : FnOk P w K mg base (L2.CX P w) k fa fd ps sp) (h : ∀ vs H Q E, sp0 vs H Q E → sp vs H Q fun _ _ _ => False) : FnOk P w K mg base CX0 k fa fd ps sp0 :=
  ⟨fun vs H Q E z => F.len vs H Q _ (h _ _ _ _ z), fun A outer s H args us vs Q E hr he hb hv hs => codeAny_mono (F.run A outer s H args us vs Q (fun _ _ _ => False) hr he hb hv (h _ _ _ _ hs)) fun r s' hq => by
    match r, hq with
    | .error e, hq => obtain ⟨_, _, _, _, _, _, _, _, _, _, _, _, z⟩ := hq; exact z
    | .ok (.ret u), hq => exact hq
    | .ok .next, hq => exact False.elim hq
    | .ok .brk, hq => exact False.elim hq
    | .ok .cont, hq => exact False.elim hq⟩
theorem rps_ints {cm : Md} {H : Hp} : ∀ ns : List Int, Rps cm H (ns.map V.int) (ns.map D.int) []
  | [] => .nil
  | n :: ns => .cons (.int n) (rps_ints ns)
end
end Pd
set_option Elab.async false
set_option linter.all false
set_option maxRecDepth 100000
set_option maxHeartbeats 4000000
namespace Pd
open PySem PySem.Spec PyProof.Rows L2
/-! ### calls of defs -/
inductive Qc : Bool → Q → Q → Prop
  | fr {qa : Q} : Qc true qa (.n [])
  | z : Qc false .z .z
  | n : Qc false (.n []) .z
  | b {qa : Q} : Qc false qa .b
def fCall (Fn : List D → R D) (dds : List D) (fs : Env → R (List D)) : Env → R D := fun ρ => (fs ρ).bind fun ds => Fn (ds ++ dds)
section
variable {X : Cx} {c : Cfg} {q qa : Q} {e : Expr} {es : List Expr} {p pos : Pos} {fs : Env → R (List D)} {σ : L2.St} {H H1 : Hp} {ρ : Env} {own : Ow} {k : Nat} {fa : Addr} {fd : FuncData} {ps : List Str} {fr : Bool} {Fn : List D → R D} {ds : List Value} {dvs : List V} {dds : List D} {x : Str}
theorem run_d {pins : List (Addr × Obj)} {s : Shared} {P : VK} {us : List Value} {vs : List V} {sp : Sp} {E : XK} (F : FnOk X.prog X.w X.K X.mg X.base (L2.CX X.prog X.w) k fa fd ps sp) (hr : Room k X.A) (hb : Binds X.K fd ps ds) (hd : Vals dvs ds) (hx : PassesAt (L2.CX X.prog X.w) X σ E)
    (I : Inv X pins σ H s) (r : Vals vs us) (h : sp (vs ++ dvs) H P E) : wpAny (model X.prog X.w) X.A (call (.ref fa) us) (EP X pins σ P) X.xe s := by
  have r2 := r.append hd
  have hl : (us ++ ds).length = ps.length := r2.length.symm.trans (F.len _ _ _ _ h)
  refine wpAny_call (codeAny_mono (F.run X.A X.stack s H ⟨us, []⟩ (us ++ ds) (vs ++ dvs) P E hr I.env0 (hb s us I.kIn hl) r2 h) fun r s' hq => ?_)
  match r, hq with
  | .error e, hq => exact hx pins H s e s' I hq
  | .ok (.ret u), hq => exact I.after hq
  | .ok .next, hq => exact False.elim hq
  | .ok .brk, hq => exact False.elim hq
  | .ok .cont, hq => exact False.elim hq
theorem call_core {P : VK} (hq : Qc fr qa q) (hdd : ∀ H, Rps c.cm H dvs dds []) (ln : (∀ ds' d, Fn ds' = .ok d → ds'.length = ps.length) ∧ ∀ ds' d, Fn ds' = .exc d → ds'.length = ps.length) (hh : rd c q (fCall Fn dds fs) σ H P) :
    rdL c qa fs σ H fun vs H1 => spD c.cm ps.length fr Fn (vs ++ dvs) H1 P (WE c.W σ) := by
  obtain ⟨ρ, own, g, o⟩ := hh
  refine ⟨ρ, own, g, outR.bind o fun ds' vs H1 F hd s1 r1 k1 o1 => ?_⟩
  have rr := r1.append (hdd H1)
  rw [List.append_nil] at rr
  have len : (vs ++ dvs).length = (ds' ++ dds).length := rr.length
  have lk1 : ∀ a, c.cm.lk a → H1 a ≠ none := fun a hl => ((g.same s1).lk a hl).1
  revert o1
  unfold spD
  cases hF : Fn (ds' ++ dds) with
  | no => exact fun o1 => False.elim o1
  | exc y => exact fun o1 => ⟨len.trans (ln.2 _ _ hF), lk1, _, F, rr, by rw [hF]; exact fun C dd H' e s' => o1 C dd H' e (s1.trans s')⟩
  | ok d =>
    refine fun o1 => ⟨len.trans (ln.1 _ _ hF), lk1, _, F, rr, by
      rw [hF]
      intro v H' G s' r' rq
      refine o1 v H' G (s1.trans s') r' ?_
      cases hq with
      | fr =>
        rw [if_pos rfl] at rq
        exact ⟨rq.1, fun a ha => .inl (s1.free (rq.2 a ha))⟩
      | z =>
        rw [if_neg Bool.false_ne_true] at rq
        exact fun a ha => (rq a ha).elim (k1 a) fun z => ⟨g.newB (s1.free z), g.newOwn (s1.free z)⟩
      | n =>
        rw [if_neg Bool.false_ne_true] at rq
        exact fun a ha => (rq a ha).elim (k1.z_of_n g a) fun z => ⟨g.newB (s1.free z), g.newOwn (s1.free z)⟩
      | b =>
        rw [if_neg Bool.false_ne_true] at rq
        exact fun a ha => (rq a ha).elim (k1.b g a) fun z => g.newB (s1.free z)⟩
/-- f(e, ..) -/
theorem de_call (F : FnOk X.prog X.w X.K X.mg X.base (L2.CX X.prog X.w) k fa fd ps (spD c.cm ps.length fr Fn)) (hr : Room k X.A) (hg : Gl X x) (hm : X.mg x = some (.ref fa)) (hk : PySem.W.keepIn X.K (.ref fa) = true) (hb : Binds X.K fd ps ds) (hd : Vals dvs ds) (hdd : ∀ H, Rps c.cm H dvs dds [])
    (ln : (∀ ds' d, Fn ds' = .ok d → ds'.length = ps.length) ∧ ∀ ds' d, Fn ds' = .exc d → ds'.length = ps.length) (tk : Takes X c.W) (hq : Qc fr qa q) (ha : DA X c qa (e :: es) fs)
    (hdb : (x == ("__debug__" : Str)) = false) (he : starEach (e :: es) X.env = (false, eval e X.env) :: starEach es X.env) (hpl : (backTo pos (starEach es X.env)).any (·.1) = false) :
    DE X c q (.Call (.Name x p) (e :: es) [] pos) (fCall Fn dds fs) := by
  refine ⟨fun pins s σ H P I h => ?_⟩
  refine wpAny_Call_Name_kw (ld_glob I hg hm ?_ hdb)
  have hh := call_core (ps := ps) hq hdd ln h
  refine PySem.W.callWith_K (h₀ := X.base) I.ok.mod.kin hk (thn (ha.run pos pins s σ H _ I hh) fun us s1 ⟨vs, H1, I1, r, q1⟩ => ⟨I1.kIn, ?_⟩) he hpl
  exact run_d F hr hb hd (passAt tk σ) I1 r q1
end
end Pd
set_option Elab.async false
set_option linter.all false
set_option maxRecDepth 100000
set_option maxHeartbeats 4000000
namespace Pd
open PySem PySem.Spec PyProof.Rows L2
/-! ### more that is walked -/
def rngD (n : Int) : List D := (List.range n.toNat).map fun i => D.int (i : Nat)
def fRange (f : Env → R D) : Env → R (List D) := fun ρ => (f ρ).bind fun d => match d with
  | .int n => if -1000000 ≤ n ∧ n ≤ 1000000 then .ok (rngD n) else .no
  | _ => .no
def enumD (i : Nat) : List D → List D
  | [] => []
  | d :: ds => .tup [.int (i : Nat), d] :: enumD (i + 1) ds
def fEnum (f : Env → R D) : Env → R (List D) := fun ρ => (f ρ).bind fun d => match itmL d with
  | some xs => .ok (enumD 0 xs)
  | none => .no
def zipD : List D → List D → List D
  | x :: xs, y :: ys => .tup [x, y] :: zipD xs ys
  | _, _ => []
section
variable {X : Cx} {c : Cfg} {q qa : Q} {tg e e2 : Expr} {p pos tpos : Pos} {f fb : Env → R D} {σ : L2.St} {H H1 : Hp} {ρ : Env} {own : Ow}
theorem di_range (hg : Gl X "range") (hm : X.mg "range" = none) (ha : DE X c qa e f) (hs : starEach [e] X.env = [(false, eval e X.env)]) (hs' : starEach [e] X.env = (false, eval e X.env) :: starEach [] X.env) : DI X c tg (.Call (.Name "range" p) [e] [] pos) (fRange f) :=
  PI.imp (pi_range1 hg hm (pa_cons ha pa_nil hs') hs) fun σ H Rr ⟨ρ, own, g, o⟩ => ⟨ρ, own, g, by
    unfold fRange at o
    cases hf : f ρ with
    | no => rw [hf] at o; exact o
    | exc x => rw [hf] at o; exact o
    | ok d =>
      rw [hf] at o
      intro v H1 F s1 r1 k1
      have o' : match (match d with
        | .int n => if -1000000 ≤ n ∧ n ≤ 1000000 then R.ok (rngD n) else .no
        | _ => .no) with
        | .ok ds => ∀ J H1, Same H H1 → ItOk c H1 own J ds → Rr J H1
        | .exc x => ∀ C dd H', ClX c.cm x C dd → Same H H' → c.W (.ref C) dd σ H'
        | .no => False := o
      cases r1 with
      | int n =>
        by_cases hn : -1000000 ≤ n ∧ n ≤ 1000000
        · rw [show (match D.int n with
            | .int n => if -1000000 ≤ n ∧ n ≤ 1000000 then R.ok (rngD n) else .no
            | _ => .no) = R.ok (rngD n) from if_pos hn] at o'
          · refine ⟨n, rfl, by omega, by omega, o' _ H1 s1 ⟨fun i H own' d x _ hd => ?_, fun i H own' d y H' x _ hd hy => ?_, fun i H own' x _ hi => ?_⟩⟩
            · have := (List.getElem?_eq_some_iff.mp hd).1
              show i < n.toNat
              simpa [rngD] using this
            · obtain ⟨e1, e2⟩ := hy
              subst e1 e2
              have hi := (List.getElem?_eq_some_iff.mp hd).1
              simp only [rngD, List.length_map, List.length_range] at hi
              have hd2 : some (D.int ((i : Nat) : Int)) = some d := by
                rw [← hd]
                simp [rngD, hi]
              cases hd2
              refine ⟨Same.refl _, [], ?_, fun a h => nomatch h⟩
              have : (0 : Int) + ((i : Nat) : Int) = ((i : Nat) : Int) := by omega
              rw [this]
              exact .int _
            · show n.toNat ≤ i
              simpa [rngD] using hi
        · rw [show (match D.int n with
            | .int n => if -1000000 ≤ n ∧ n ≤ 1000000 then R.ok (rngD n) else .no
            | _ => .no) = R.no from if_neg hn] at o'
          exact False.elim o'
      | _ => exact False.elim o'⟩
theorem enumD_get : ∀ (ds : List D) (k i : Nat), (enumD k ds)[i]? = (ds[i]?).map fun d => .tup [.int ((k + i : Nat) : Int), d]
  | [], _, _ => by simp [enumD]
  | d :: ds, k, 0 => by simp [enumD]
  | d :: ds, k, i + 1 => by
    have := enumD_get ds (k + 1) i
    simp only [enumD, List.getElem?_cons_succ]
    rw [this, show k + 1 + i = k + (i + 1) by omega]
theorem enumD_len : ∀ (ds : List D) (k : Nat), (enumD k ds).length = ds.length
  | [], _ => rfl
  | d :: ds, k => by simp [enumD, enumD_len ds]
theorem di_enum (hK : c.cm.K = X.K) {elts : List Expr} {kk : Nat} (hg : Gl X "enumerate") (hm : X.mg "enumerate" = none) (ha : DE X c .z e f) (hs : starEach [e] X.env = [(false, eval e X.env)]) (hs' : starEach [e] X.env = (false, eval e X.env) :: starEach [] X.env) :
    DI X c (.Tuple elts kk tpos) (.Call (.Name "enumerate" p) [e] [] pos) (fEnum f) :=
  PI.imp (pi_enum hg hm (pa_cons ha pa_nil hs') hs) fun σ H Rr ⟨ρ, own, g, o⟩ => ⟨ρ, own, g, by
    unfold fEnum at o
    cases hf : f ρ with
    | no => rw [hf] at o; exact o
    | exc x => rw [hf] at o; exact o
    | ok d =>
      rw [hf] at o
      intro v H1 F s1 r1 k1
      have o' : match (match itmL d with
        | some xs => R.ok (enumD 0 xs)
        | none => .no) with
        | .ok ds => ∀ J H1, Same H H1 → ItOk c H1 own J ds → Rr J H1
        | .exc x => ∀ C dd H', ClX c.cm x C dd → Same H H' → c.W (.ref C) dd σ H'
        | .no => False := o
      have g1 := g.same s1
      have go : ∀ {a : Addr} {vs : List V} {ds : List D} {G : List Addr}, (∀ H own', Ext H1 own H own' → SqL X.K H a vs) → Rps c.cm H1 vs ds G → (∀ a ∈ G, c.B a ∧ ∀ j, a ∉ own j) → ItOk c H1 own (Ite X.K a) (enumD 0 ds) := fun {a vs ds G} hq rr hz => by
        have one : ∀ {i : Nat} {d : D}, (enumD 0 ds)[i]? = some d → ∃ d0, ds[i]? = some d0 ∧ d = .tup [.int (i : Nat), d0] := fun {i d} hd => by
          rw [enumD_get] at hd
          obtain ⟨d0, h1, h2⟩ := Option.map_eq_some_iff.mp hd
          exact ⟨d0, h1, by rw [← h2]; simp⟩
        refine ⟨fun i H own' d x _ hd => ?_, fun i H own' d y H' x _ hd hy => ?_, fun i H own' x _ hi => ⟨vs, hq _ _ x, by rw [enumD_len] at hi; rw [rr.length]; exact hi⟩⟩
        · obtain ⟨d0, h1, _⟩ := one hd
          obtain ⟨v, G', h2, _, _⟩ := rr.get h1
          exact ⟨vs, v, hq _ _ x, h2⟩
        · obtain ⟨d0, h1, rfl⟩ := one hd
          obtain ⟨T, z, rfl, hT, rfl, hz'⟩ := hy
          have sm := upd_newSame (o := .tup [.int (i : Nat), z]) hT
          obtain ⟨G', h3, h4⟩ := item_ok (a := a) g1 x rr hz h1 (hz' vs (hq _ _ x))
          exact ⟨sm, G', .tup upd_same (by simpa using Rps.cons (.int (i : Nat)) (.one (h3.same sm))), h4⟩
      cases hi : itmL d with
      | none => rw [hi] at o'; exact False.elim o'
      | some ds =>
        rw [hi] at o'
        cases r1 with
        | lst e r => cases hi; exact ⟨_, _, rfl, .of e, o' _ H1 s1 (go (fun H own' x => sq_ext g1.ownM (k1 _ List.mem_cons_self).2 x (.of e)) r fun a ha => k1 a (List.mem_cons_of_mem _ ha))⟩
        | frz e r => cases hi; rw [hK] at e; exact ⟨_, _, rfl, e.sq, o' _ H1 s1 (go (fun H own' x => (fz_ext g1.ownM x e).sq) r k1)⟩
        | _ => cases hi⟩
end
end Pd
set_option Elab.async false
set_option linter.all false
set_option maxRecDepth 100000
set_option maxHeartbeats 4000000
namespace Pd
open PySem PySem.Spec PyProof.Rows L2
/-! ### the rules in short, their small conditions found by themselves -/
def kdOf (l : List Kd) (i : Nat) : Kd := l.getD i .z
section
variable {X : Cx} {c : Cfg} {q q1 q2 q3 qa : Q} {tg e e2 e3 a b iter elt : Expr} {es ifs elts : List Expr} {st : Stmt} {sts body : List Stmt} {p p2 p3 pos pos' tpos apos cpos : Pos} {f fa fb fc fe : Env → R D} {ft : Env → R Bool} {fi fs : Env → R (List D)} {g g' : Env → SR} {h : D → Env → Option Env} {hs' : List D → Env → Option Env} {ts ts' : List Nat} {x : Str} {op op' : CmpOp} {s s' : D → D → Option Bool} {sf : List D → Option D} {id T : String}
theorem vz (i : Nat) (hk : c.kd i = .z := by rfl) (hN : X.N[i]? = some x := by rfl) (hv : Vis X.env.scope x := by first | exact Or.inl rfl | exact Or.inr (Or.inl rfl) | exact Or.inr (Or.inr rfl)) (hd : (x == ("__debug__" : Str)) = false := by decide) (hcd : (x == ("__classdict__" : Str)) = false := by decide) : DE X c .z (.Name x pos) (fVar i) :=
  de_var hN hv hd hcd (by rw [hk])
theorem vm (i : Nat) (hk : c.kd i = .m := by rfl) (hN : X.N[i]? = some x := by rfl) (hv : Vis X.env.scope x := by first | exact Or.inl rfl | exact Or.inr (Or.inl rfl) | exact Or.inr (Or.inr rfl)) (hd : (x == ("__debug__" : Str)) = false := by decide) (hcd : (x == ("__classdict__" : Str)) = false := by decide) : DE X c (.n [i]) (.Name x pos) (fVar i) :=
  de_var hN hv hd hcd (by rw [hk])
theorem vr (i : Nat) (hk : c.kd i = .r := by rfl) (hN : X.N[i]? = some x := by rfl) (hv : Vis X.env.scope x := by first | exact Or.inl rfl | exact Or.inr (Or.inl rfl) | exact Or.inr (Or.inr rfl)) (hd : (x == ("__debug__" : Str)) = false := by decide) (hcd : (x == ("__classdict__" : Str)) = false := by decide) : DE X c .b (.Name x pos) (fVar i) :=
  de_var hN hv hd hcd (by rw [hk])
theorem ac (j : Qj q1 q2 q) (ha : DE X c q1 e f) (hr : DA X c q2 es fs) (hs : starEach (e :: es) X.env = (false, eval e X.env) :: starEach es X.env := by rfl) : DA X c q (e :: es) (fCons f fs) := da_cons j ha hr hs
theorem ix (hu : X.A.units + 64 < cLine) (j : Qj q1 q2 q) (ha : DE X c q1 a fa) (hb : DE X c q2 b fb) (hs : PlainIx b := by exact fun _ _ => rfl) (hK : c.cm.K = X.K := by rfl) : DE X c q (.Subscript a b pos) (f2 ixD fa fb) := de_ix hK hu j ha hb hs
theorem tcmp (ho : CmD X c op s) (ha : DE X c q1 a fa) (hb : DE X c q2 b fb) (hm : behindInMarks op b = false := by first | exact nomark _ | rfl) : DT X c (.Compare a [op] [b] pos) (f2 s fa fb) := dt_cmp ho ha hb hm
theorem ecmp (ho : CmD X c op s) (ha : DE X c q1 a fa) (hb : DE X c q2 b fb) (hm : behindInMarks op b = false := by first | exact nomark _ | rfl) : DE X c q (.Compare a [op] [b] pos) (fB (f2 s fa fb)) := de_cmp ho ha hb hm
theorem tchain (ho : CmD X c op s) (ho' : CmD X c op' s') (ha : DE X c q1 a fa) (hb : DE X c q2 b fb) (hc : DE X c q3 e fc) (hm : lastMarks [op, op'] [b, e] = false := by with_unfolding_all rfl) : DT X c (.Compare a [op, op'] [b, e] pos) (fChain s s' fa fb fc) := dt_chain ho ho' ha hb hc hm
theorem echain (ho : CmD X c op s) (ho' : CmD X c op' s') (ha : DE X c q1 a fa) (hb : DE X c q2 b fb) (hc : DE X c q3 e fc) (hm : lastMarks [op, op'] [b, e] = false := by with_unfolding_all rfl) : DE X c q (.Compare a [op, op'] [b, e] pos) (fB (fChain s s' fa fb fc)) := de_chain ho ho' ha hb hc hm
theorem tval (h : DE X c qa e f) (he : ∀ whole, isTrue e X.env whole = (do let v ← whole; standAt e.pos; holding [v] (truthy v)) := by intro _; rfl) : DT X c e (fT f) := dt_val h he
theorem cB (hc : CallD X c (.builtin id) sf) (hg : Gl X x) (hm : X.mg x = none) (hv : bootBuiltins x = some (.builtin id)) (ha : DA X c q (e :: es) fs) (hn : x ≠ "__name__" := by decide) (hdb : (x == ("__debug__" : Str)) = false := by decide)
    (he : starEach (e :: es) X.env = (false, eval e X.env) :: starEach es X.env := by rfl) (hpl : (backTo pos (starEach es X.env)).any (·.1) = false := by rfl) : DE X c q (.Call (.Name x p) (e :: es) [] pos) (fS sf fs) := de_callB hc hg hm hv ha hn hdb he hpl
theorem cT (hc : CallD X c (.type T) sf) (hg : Gl X x) (hm : X.mg x = none) (hv : bootBuiltins x = some (.type T)) (ha : DA X c q (e :: es) fs) (hn : x ≠ "__name__" := by decide) (hdb : (x == ("__debug__" : Str)) = false := by decide)
    (he : starEach (e :: es) X.env = (false, eval e X.env) :: starEach es X.env := by rfl) (hpl : (backTo pos (starEach es X.env)).any (·.1) = false := by rfl) : DE X c q (.Call (.Name x p) (e :: es) [] pos) (fS sf fs) := de_callTy hc hg hm hv ha hn hdb he hpl
theorem cMin0 {k : Nat} (hc : X.calm = true) (hu : X.A.units + 64 < cLine) (hg : Gl X "min") (hm : X.mg "min" = none) (ha : DE X c q e f) (hs : starEach [e] X.env = (false, eval e X.env) :: starEach [] X.env := by rfl) (hK : c.cm.K = X.K := by rfl) :
    DE X c q (.Call (.Name "min" p) [e] [⟨some "default", .Constant .none k p2, p3⟩] pos) (f1 minDef f) := de_min0 hK hc hu hg hm ha hs
theorem cF {k : Nat} {fa : Addr} {fd : FuncData} {ps : List Str} {fr : Bool} {Fn : List D → R D} {ds : List Value} {dvs : List V} {dds : List D} (F : FnOk X.prog X.w X.K X.mg X.base (L2.CX X.prog X.w) k fa fd ps (spD c.cm ps.length fr Fn)) (hr : Room k X.A) (hg : Gl X x) (hm : X.mg x = some (.ref fa)) (hk : PySem.W.keepIn X.K (.ref fa) = true) (hb : Binds X.K fd ps ds) (hd : Vals dvs ds) (hdd : ∀ H, Rps c.cm H dvs dds [])
    (ln : (∀ ds' d, Fn ds' = .ok d → ds'.length = ps.length) ∧ ∀ ds' d, Fn ds' = .exc d → ds'.length = ps.length) (tk : Takes X c.W) (hq : Qc fr qa q) (ha : DA X c qa (e :: es) fs)
    (hdb : (x == ("__debug__" : Str)) = false := by decide) (he : starEach (e :: es) X.env = (false, eval e X.env) :: starEach es X.env := by rfl) (hpl : (backTo pos (starEach es X.env)).any (·.1) = false := by rfl) :
    DE X c q (.Call (.Name x p) (e :: es) [] pos) (fCall Fn dds fs) := de_call F hr hg hm hk hb hd hdd ln tk hq ha hdb he hpl
/-- an own def without defaults left open, as it stands in the table -/
structure FD (P : Program) (w : World) (K : PySem.W.Frag) (mg : Str → Option Value) (base : Heap) (cm : Md) (x : Str) (k : Nat) (ps : List Str) (fr : Bool) (np nN : Nat) (g : Env → SR) : Prop where
  ex : ∃ (fa : Addr) (fd : FuncData), mg x = some (.ref fa) ∧ PySem.W.keepIn K (.ref fa) = true ∧ Binds K fd ps [] ∧ ps.length = np ∧ FnOk P w K mg base (L2.CX P w) k fa fd ps (spD cm ps.length fr (callD np nN g))
theorem cFD {k k' : Nat} {ps : List Str} {fr : Bool} {np nN : Nat} (F : FD X.prog X.w X.K X.mg X.base c.cm x k ps fr np nN g) (hr : Room k' X.A) (hkk : k ≤ k') (tk : Takes X c.W) (hq : Qc fr qa q) (hg : Gl X x) (ha : DA X c qa (e :: es) fs)
    (hdb : (x == ("__debug__" : Str)) = false := by decide) (he : starEach (e :: es) X.env = (false, eval e X.env) :: starEach es X.env := by rfl) (hpl : (backTo pos (starEach es X.env)).any (·.1) = false := by rfl) :
    DE X c q (.Call (.Name x p) (e :: es) [] pos) (fCall (callD np nN g) [] fs) := by
  obtain ⟨fa, fd, h1, h2, h3, h4, h5⟩ := F.ex
  subst h4
  exact de_call h5 (hr.mono hkk) hg h1 h2 h3 .nil (fun _ => .nil) ln_callD tk hq ha hdb he hpl
theorem gname (i : Nat) (hN : X.N.Nodup) (hk : c.kd i = .z := by rfl) (hi : X.N[i]? = some x := by rfl) (hx : Loc X.env.scope x := by first | exact Or.inl rfl | exact Or.inr rfl) (hf : X.fn x = true ∨ X.env.scope.names.lookup x = some .local := by first | exact Or.inl rfl | exact Or.inr rfl) : DG X c (.Name x pos) (tgName i) [i] := dg_name hk hN hi hx hf
theorem gcons (h1 : DG X c e h ts) (h2 : DGs X c es hs' ts') (hq : (assignEach (e :: es) X.env).map (·.2) = assign e X.env :: (assignEach es X.env).map (·.2) := by rfl) : DGs X c (e :: es) (tgCons h hs') (ts ++ ts') := dgs_cons h1 h2 hq
theorem gtup {k : Nat} (n : Nat) (hc : X.calm = true) (h1 : DGs X c es hs' ts) (hn : (assignEach es X.env).length = n := by rfl) (hst : (assignEach es X.env).findIdx? (·.1) = none := by rfl) : DG X c (.Tuple es k pos) (tgTup n hs') ts := dg_tup hc h1 hn hst
theorem iseq (ha : DE X c .z e f) (hK : c.cm.K = X.K := by rfl) : DI X c tg e (fItm f) := di_seq hK ha
theorem esl {lo hi : Option Expr} {p2 : Pos} {fl fh : Env → R (Option Int)} (ha : DE X c q a fa) (hl : DO X c lo fl) (hh : DO X c hi fh) (hK : c.cm.K = X.K := by rfl) : DE X c q (.Subscript a (.Slice lo hi none p2) pos) (fSl fa fl fh) := de_slice hK ha hl hh
theorem erev {k : Nat} {p1 p2 p3 : Pos} (ha : DE X c q a fa) (hK : c.cm.K = X.K := by rfl) : DE X c q (.Subscript a (.Slice none none (some (.UnaryOp .USub (.Constant (.int 1) k p1) p2)) p3) pos) (f1 revD fa) := de_rev hK ha
theorem irange (hg : Gl X "range") (hm : X.mg "range" = none) (ha : DE X c qa e f) (hs : starEach [e] X.env = [(false, eval e X.env)] := by rfl) (hs' : starEach [e] X.env = (false, eval e X.env) :: starEach [] X.env := by rfl) : DI X c tg (.Call (.Name "range" p) [e] [] pos) (fRange f) := di_range hg hm ha hs hs'
theorem ienum {kk : Nat} (hg : Gl X "enumerate") (hm : X.mg "enumerate" = none) (ha : DE X c .z e f) (hs : starEach [e] X.env = [(false, eval e X.env)] := by rfl) (hs' : starEach [e] X.env = (false, eval e X.env) :: starEach [] X.env := by rfl) (hK : c.cm.K = X.K := by rfl) :
    DI X c (.Tuple elts kk tpos) (.Call (.Name "enumerate" p) [e] [] pos) (fEnum f) := di_enum hK hg hm ha hs hs'
theorem elc {scope : Scope} (own : List (Str × Nat)) (hc : X.calm = true) (hN : X.N.Nodup) (hqz : Qz q) (hi : DI X c tg iter fi)
    (hg : ∀ (s : Shared) (H : Hp) (C : Addr) (cl : List (Str × Addr)) (fp : List Addr), DG (X.blk s H scope (compEnvC scope cl C X.env) fp) c.nox tg h ts)
    (ht : ∀ (s : Shared) (H : Hp) (C : Addr) (cl : List (Str × Addr)) (fp : List Addr), DTs (X.blk s H scope (compEnvC scope cl C X.env) fp) c.nox ifs ft)
    (he : ∀ (s : Shared) (H : Hp) (C : Addr) (cl : List (Str × Addr)) (fp : List Addr), DE (X.blk s H scope (compEnvC scope cl C X.env) fp) c.nox q elt fe)
    (ok : BlkOk X.N X.env.scope scope own := by exact blkOk_by (by decide +kernel)) (hs : ∀ x, foldedSetIterable iter X.env x = pure x := by intro _; rfl) (hts : ∀ t ∈ ts, t ∈ own.map (·.2) := by decide) :
    DE X c q (.ListComp elt [⟨tg, iter, ifs, 0⟩] scope pos) (fLc fi h ft fe (own.map (·.2))) := de_lc hc hN hqz hi ok hg ht he hs hts
theorem setz (i : Nat) (hN : X.N.Nodup) (he : DE X c .z e f) (hk : c.kd i = .z := by rfl) (hi : X.N[i]? = some x := by rfl) (hx : Loc X.env.scope x := by first | exact Or.inl rfl | exact Or.inr rfl) (hs : swapsWith e (some (.Name x pos')) pos.line X.env = pure false := by rfl) (hf : X.fn x = true ∨ X.env.scope.names.lookup x = some .local := by first | exact Or.inl rfl | exact Or.inr rfl) :
    DS X c (.Assign [.Name x pos'] e pos) (sSet i f) := ds_setz hk hN hi hx he hs hf
theorem setm (i : Nat) (hN : X.N.Nodup) (he : DE X c (.n []) e f) (hpin : c.pin i = none := by rfl) (hk : c.kd i = .m := by rfl) (hi : X.N[i]? = some x := by rfl) (hx : Loc X.env.scope x := by first | exact Or.inl rfl | exact Or.inr rfl) (hs : swapsWith e (some (.Name x pos')) pos.line X.env = pure false := by rfl) (hf : X.fn x = true ∨ X.env.scope.names.lookup x = some .local := by first | exact Or.inl rfl | exact Or.inr rfl) :
    DS X c (.Assign [.Name x pos'] e pos) (sSet i f) := ds_setm hpin hk hN hi hx he hs hf
theorem setr (i : Nat) (hN : X.N.Nodup) (he : DE X c (.n []) e f) (hpin : c.pin i = none := by rfl) (hk : c.kd i = .r := by rfl) (hi : X.N[i]? = some x := by rfl) (hx : Loc X.env.scope x := by first | exact Or.inl rfl | exact Or.inr rfl) (hs : swapsWith e (some (.Name x pos')) pos.line X.env = pure false := by rfl) (hf : X.fn x = true ∨ X.env.scope.names.lookup x = some .local := by first | exact Or.inl rfl | exact Or.inr rfl) :
    DS X c (.Assign [.Name x pos'] e pos) (sSetR i f) := ds_setr hpin hk hN hi hx he hs hf
/-- a comprehension given to a name, on one line -/
theorem setzLc {scope : Scope} (i : Nat) (own : List (Str × Nat)) (hc : X.calm = true) (hN : X.N.Nodup) (hqz : Qz q) (hi : DI X c tg iter fi)
    (hg : ∀ (s : Shared) (H : Hp) (C : Addr) (cl : List (Str × Addr)) (fp : List Addr), DG (X.blk s H scope (compEnvC scope cl C X.env) fp) c.nox tg h ts)
    (ht : ∀ (s : Shared) (H : Hp) (C : Addr) (cl : List (Str × Addr)) (fp : List Addr), DTs (X.blk s H scope (compEnvC scope cl C X.env) fp) c.nox ifs ft)
    (he : ∀ (s : Shared) (H : Hp) (C : Addr) (cl : List (Str × Addr)) (fp : List Addr), DE (X.blk s H scope (compEnvC scope cl C X.env) fp) c.nox .z elt fe)
    (hk : c.kd i = .z := by rfl) (hy : X.N[i]? = some x := by rfl) (hyl : X.env.scope.names.lookup x = some .local := by rfl) (hsw : swapsWith (.ListComp elt [⟨tg, iter, ifs, 0⟩] scope pos) (some (.Name x pos')) p.line X.env = pure true := by exact sw_true rfl rfl rfl (by decide +kernel))
    (ok : BlkOk X.N X.env.scope scope own := by exact blkOk_by (by decide +kernel)) (hs : ∀ x, foldedSetIterable iter X.env x = pure x := by intro _; rfl) (hts : ∀ t ∈ ts, t ∈ own.map (·.2) := by decide) :
    DS X c (.Assign [.Name x pos'] (.ListComp elt [⟨tg, iter, ifs, 0⟩] scope pos) p) (sSet i (fLc fi h ft fe (own.map (·.2)))) :=
  PS.imp (ps_setLc hc hN hy hyl hsw hi ok hg ht he hs) fun D σ H z => lc_core' .z hts (setz_core hk z)
theorem setnLc {scope : Scope} (i : Nat) (own : List (Str × Nat)) (hc : X.calm = true) (hN : X.N.Nodup) (hqz : Qz q) (hi : DI X c tg iter fi)
    (hg : ∀ (s : Shared) (H : Hp) (C : Addr) (cl : List (Str × Addr)) (fp : List Addr), DG (X.blk s H scope (compEnvC scope cl C X.env) fp) c.nox tg h ts)
    (ht : ∀ (s : Shared) (H : Hp) (C : Addr) (cl : List (Str × Addr)) (fp : List Addr), DTs (X.blk s H scope (compEnvC scope cl C X.env) fp) c.nox ifs ft)
    (he : ∀ (s : Shared) (H : Hp) (C : Addr) (cl : List (Str × Addr)) (fp : List Addr), DE (X.blk s H scope (compEnvC scope cl C X.env) fp) c.nox (.n []) elt fe)
    (hpin : c.pin i = none := by rfl) (hk : c.kd i = .r := by rfl) (hy : X.N[i]? = some x := by rfl) (hyl : X.env.scope.names.lookup x = some .local := by rfl) (hsw : swapsWith (.ListComp elt [⟨tg, iter, ifs, 0⟩] scope pos) (some (.Name x pos')) p.line X.env = pure true := by exact sw_true rfl rfl rfl (by decide +kernel))
    (ok : BlkOk X.N X.env.scope scope own := by exact blkOk_by (by decide +kernel)) (hs : ∀ x, foldedSetIterable iter X.env x = pure x := by intro _; rfl) (hts : ∀ t ∈ ts, t ∈ own.map (·.2) := by decide) :
    DS X c (.Assign [.Name x pos'] (.ListComp elt [⟨tg, iter, ifs, 0⟩] scope pos) p) (sSetR i (fLc fi h ft fe (own.map (·.2)))) :=
  PS.imp (ps_setLc hc hN hy hyl hsw hi ok hg ht he hs) fun D σ H z => lc_core' .n hts (setr_core hpin hk z)
theorem asg (he : DE X c .z e f) (hg : DG X c tg h ts) (hs : swapsWithSole [tg] e pos.line X.env = pure false := by rfl) (hw : swappedStores [tg] e X.env = pure none := by rfl) (h1 : (assignEach [tg] X.env).map (·.2) = [assign tg X.env] := by rfl) : DS X c (.Assign [tg] e pos) (sAsg f h) := ds_asg he hg hs hw h1
theorem exps (he : DE X c q e f) (hs : swapsWith e none pos.line X.env = pure false := by rfl) : DS X c (.Expr e pos) (sExp f) := ds_exp he hs
theorem fors (hp : PassesOwn (model X.prog X.w) X.A X.env X.xe) (hc : X.calm = true) (hi : DI X c tg iter fi) (hg : DG X c tg h ts) (hb : DSs X c body g) (hs : ∀ x, foldedSetIterable iter X.env x = pure x := by intro _; rfl) : DS X c (.For tg iter body [] pos) (sFor fi h g) := ds_for hp hc hi hg hb hs
theorem apps (i : Nat) (he : DE X c .z e f) (hk : c.kd i = .r := by rfl) (hN : X.N[i]? = some x := by rfl) (hv : Vis X.env.scope x := by first | exact Or.inl rfl | exact Or.inr (Or.inl rfl) | exact Or.inr (Or.inr rfl)) (hd : (x == ("__debug__" : Str)) = false := by decide) (hcd : (x == ("__classdict__" : Str)) = false := by decide)
    (hb : attributeBase (.Name x p) "append" X.env (eval (.Name x p) X.env) = eval (.Name x p) X.env := by rfl)
    (hfew : ((backTo cpos (starEach [e] X.env)).all (fun x => !x.1) && (backToKw cpos (keywordEach [] X.env)).all (fun x => x.1.isSome) && decide ([e].length + ([] : List Keyword).length + (if ([] : List Keyword).isEmpty then 0 else 1) < 30)) = true := by rfl)
    (hline : (apos.endLine == cpos.line) = true := by rfl) (hst : starEach [e] X.env = (false, eval e X.env) :: starEach [] X.env := by rfl) (hpl : (backTo cpos (starEach [] X.env)).any (·.1) = false := by rfl)
    (hs : swapsWith (.Call (.Attribute (.Name x p) "append" apos) [e] [] cpos) none pos.line X.env = pure false := by rfl) :
    DS X c (.Expr (.Call (.Attribute (.Name x p) "append" apos) [e] [] cpos) pos) (sApp i f) := ds_append hk hN hv hd hcd he hb hfew hline hst hpl hs
theorem rets (he : DE X c q e f) (hq : RtQ c q) : DS X c (.Return (some e) pos) (sRet f) := ds_ret hq he
end
theorem rtq {c : Cfg} {q : Q} (h : c.fr = false := by rfl) : RtQ c q := fun z => by rw [h] at z; cases z
theorem rtn {c : Cfg} {S : List Nat} (h : ∀ a, ¬ c.io a) (hp : ∀ i, c.pin i = none := by exact fun _ => rfl) : RtQ c (.n S) := fun _ => ⟨S, rfl, .inl ⟨h, hp⟩⟩
theorem rtn0 {c : Cfg} : RtQ c (.n []) := fun _ => ⟨[], rfl, .inr rfl⟩
end Pd
set_option Elab.async false
set_option linter.all false
set_option maxRecDepth 100000
set_option maxHeartbeats 4000000
namespace Pd
open PySem PySem.Spec PyProof.Rows L2
/-! ### isinstance(x, a built-in class) -/
def tyN : D → Option String
  | .non => some "NoneType"
  | .bl _ => some "bool"
  | .int _ => some "int"
  | .str _ => some "str"
  | .lst _ => some "list"
  | .fz _ => some "list"
  | .tup _ => some "tuple"
  | .dK _ _ => some "dict"
  | .dT _ _ => some "dict"
  | .ins _ _ _ => none
  | .exc _ => none
def isTup : D → Bool
  | .tup _ => true
  | _ => false
def isLst : D → Bool
  | .lst _ => true
  | .fz _ => true
  | _ => false
def isInt : D → Bool
  | .int _ => true
  | .bl _ => true
  | _ => false
def isBol : D → Bool
  | .bl _ => true
  | _ => false
def isStr : D → Bool
  | .str _ => true
  | _ => false
def isDct : D → Bool
  | .dK _ _ => true
  | .dT _ _ => true
  | _ => false
def isiD (t : D → Bool) (d : D) : Option D := match tyN d with
  | some _ => some (.bl (t d))
  | none => none
def TyRule (T : String) (t : D → Bool) : Prop := ∀ d n, tyN d = some n → kitB n T = some (t d)
theorem ty_tup : TyRule "tuple" isTup := fun d n h => by cases d <;> cases h <;> (simp only [isTup]; decide +kernel)
theorem ty_lst : TyRule "list" isLst := fun d n h => by cases d <;> cases h <;> (simp only [isLst]; decide +kernel)
theorem ty_int : TyRule "int" isInt := fun d n h => by cases d <;> cases h <;> (simp only [isInt]; decide +kernel)
theorem ty_bol : TyRule "bool" isBol := fun d n h => by cases d <;> cases h <;> (simp only [isBol]; decide +kernel)
theorem ty_str : TyRule "str" isStr := fun d n h => by cases d <;> cases h <;> (simp only [isStr]; decide +kernel)
theorem ty_dct : TyRule "dict" isDct := fun d n h => by cases d <;> cases h <;> (simp only [isDct]; decide +kernel)
/-- .. with locked dicts of tuple keys -/
inductive TyY (K : PySem.W.Frag) (H : Hp) : V → Value → Prop where
  | base {x : V} {t : Value} (h : TyX K H x t) : TyY K H x t
  | fT {a : Addr} {kvs : List (List Key × V)} (e : Rd H a (.dT kvs)) : TyY K H (.ref a) (.type "dict")
theorem kit_ofY {X : Cx} {pins : List (Addr × Obj)} {σ : L2.St} {H : Hp} {s : Shared} {x : V} {u t : Value} (I : Inv X pins σ H s) (rx : RelV x u) (ty : TyY X.K H x t) : ∃ P : Heap → Prop, PySem.W.KitX X.K u t P ∧ P s.heap ∧ u ≠ .builtin "__main__.__loader__#opaque" := by
  cases ty with
  | base b => exact kit_of I rx b
  | @fT a kvs ea =>
    cases (show u = Value.ref a from rx)
    obtain ⟨_, _, xs, _, o, es, ep, h1, h2, _⟩ := dt_rd I.hok ea
    exact ⟨_, PySem.W.kitx_dict, ⟨o, h1, h2.1⟩, fun z => nomatch z⟩
def rIsiY (K : PySem.W.Frag) : List V → Hp → VK → Prop := fun xs H Q => ∃ (x c : V) (t u : Value) (b : Bool), xs = [x, c] ∧ ClsV c u ∧ TyY K H x t ∧ PySem.W.kitOne K t u = some b ∧ Q (.bl b) H
theorem call_isiY {X : Cx} : CallR X (.builtin "isinstance") (rIsiY X.K) := by
  intro pins s σ H xs us Q I r h
  obtain ⟨x, c, t, u, b, rfl, k, ty, e, q⟩ := h
  obtain ⟨u1, u2, rfl, r1, r2⟩ := vals2 r
  have e2 := k.eq r2
  subst e2
  obtain ⟨P, Z, p, hx⟩ := kit_ofY I r1 ty
  exact PySem.W.kia_one Z I.kIn p e hx fun tk => ⟨.bl b, H, I.tok tk, rfl, q⟩
theorem Rp.tyX {cm : Md} {H : Hp} {v : V} {d : D} {F : List Addr} {n : String} (r : Rp cm H v d F) (h : tyN d = some n) : TyY cm.K H v (.type n) := by
  cases r with
  | non => cases h; exact .base (.base .non)
  | bl b => cases h; exact .base (.base (.bl b))
  | int i => cases h; exact .base (.base (.int i))
  | str x => cases h; exact .base (.base (.str x))
  | tup e r => cases h; exact .base (.base (.tup e))
  | lst e r => cases h; exact .base (.base (.lst e))
  | @frz a vs ds F e r =>
    cases h
    rcases e with ⟨o, e⟩ | e
    · exact .base (.base (.frz e))
    · rcases e fun _ => none with (z | ⟨_, z⟩) | ⟨o, _, _, z, k, _⟩
      · cases z
      · cases z
      · exact .base (.kList z k)
  | dK e _ r =>
    cases h
    rcases e.rd with e | ⟨o, e⟩
    · exact .base (.base (.dK e))
    · exact .base (.fDict e)
  | dT e _ r => cases h; exact .fT e.rd
  | ins e _ _ r => cases h
  | exc e => cases h
section
variable {X : Cx} {c : Cfg} {q qa : Q} {e : Expr} {p p2 pos : Pos} {f : Env → R D} {T : String} {x : Str} {t : D → Bool}
theorem de_isi (hK : c.cm.K = X.K) (hT : TyRule T t) (hg : Gl X "isinstance") (hm : X.mg "isinstance" = none) (hgT : Gl X x) (hmT : X.mg x = none) (hvT : bootBuiltins x = some (.type T)) (ha : DE X c qa e f) (hn : x ≠ "__name__") (hd : (x == ("__debug__" : Str)) = false)
    (hs : starEach [e, .Name x p2] X.env = (false, eval e X.env) :: starEach [.Name x p2] X.env) (hs2 : starEach [.Name x p2] X.env = (false, eval (.Name x p2) X.env) :: starEach [] X.env) (hpl : (backTo pos (starEach [.Name x p2] X.env)).any (·.1) = false) :
    DE X c q (.Call (.Name "isinstance" p) [e, .Name x p2] [] pos) (f1 (isiD t) f) :=
  PE.imp (pe_callB call_isiY hg hm (by decide +kernel) (pa_cons ha (pa_cons (pe_bltn (v := .ty T) hgT hmT hvT rfl hn hd) pa_nil hs2) hs) (by decide) (by decide) hs hpl) fun σ H P ⟨ρ, own, g, o⟩ => ⟨ρ, own, g, outR.bind o fun d v H1 F hd s1 r1 k1 o1 => by
    revert o1
    unfold isiD
    cases hn : tyN d with
    | none => exact fun o1 => False.elim o1
    | some n => exact fun o1 => ⟨_, _, _, _, t d, rfl, .ty T, by rw [← hK]; exact r1.tyX hn, kit_ty (hT d n hn), o1 _ H1 [] s1 (.bl _) .nil⟩⟩
theorem isi (hT : TyRule T t) (hg : Gl X "isinstance") (hm : X.mg "isinstance" = none) (hgT : Gl X x) (hmT : X.mg x = none) (hvT : bootBuiltins x = some (.type T)) (ha : DE X c qa e f) (hn : x ≠ "__name__" := by decide) (hd : (x == ("__debug__" : Str)) = false := by decide)
    (hs : starEach [e, .Name x p2] X.env = (false, eval e X.env) :: starEach [.Name x p2] X.env := by rfl) (hs2 : starEach [.Name x p2] X.env = (false, eval (.Name x p2) X.env) :: starEach [] X.env := by rfl) (hpl : (backTo pos (starEach [.Name x p2] X.env)).any (·.1) = false := by rfl) (hK : c.cm.K = X.K := by rfl) :
    DE X c q (.Call (.Name "isinstance" p) [e, .Name x p2] [] pos) (f1 (isiD t) f) := de_isi hK hT hg hm hgT hmT hvT ha hn hd hs hs2 hpl
end
end Pd
set_option Elab.async false
set_option linter.all false
set_option maxRecDepth 100000
set_option maxHeartbeats 4000000
namespace Pd
open PySem PySem.Spec PyProof.Rows L2
/-! ### the built-in names that nobody has bound anew -/
structure Bi (mg : Str → Option Value) : Prop where
  len : mg "len" = none
  list : mg "list" = none
  sum : mg "sum" = none
  all : mg "all" = none
  any : mg "any" = none
  max : mg "max" = none
  min : mg "min" = none
  range : mg "range" = none
  enumerate : mg "enumerate" = none
  zip : mg "zip" = none
  reversed : mg "reversed" = none
  isinstance : mg "isinstance" = none
  int : mg "int" = none
  bool : mg "bool" = none
  tuple : mg "tuple" = none
  str : mg "str" = none
  dict : mg "dict" = none
  set : mg "set" = none
  sorted : mg "sorted" = none
  ValueError : mg "ValueError" = none
theorem bb_len : bootBuiltins "len" = some (.builtin "len") := by decide +kernel
theorem bb_list : bootBuiltins "list" = some (.type "list") := by decide +kernel
theorem bb_sum : bootBuiltins "sum" = some (.builtin "sum") := by decide +kernel
theorem bb_all : bootBuiltins "all" = some (.builtin "all") := by decide +kernel
theorem bb_any : bootBuiltins "any" = some (.builtin "any") := by decide +kernel
theorem bb_max : bootBuiltins "max" = some (.builtin "max") := by decide +kernel
theorem bb_min : bootBuiltins "min" = some (.builtin "min") := by decide +kernel
theorem bb_int : bootBuiltins "int" = some (.type "int") := by decide +kernel
theorem bb_bool : bootBuiltins "bool" = some (.type "bool") := by decide +kernel
theorem bb_tuple : bootBuiltins "tuple" = some (.type "tuple") := by decide +kernel
theorem bb_str : bootBuiltins "str" = some (.type "str") := by decide +kernel
theorem bb_dict : bootBuiltins "dict" = some (.type "dict") := by decide +kernel
theorem bb_set : bootBuiltins "set" = some (.type "set") := by decide +kernel
theorem bb_sorted : bootBuiltins "sorted" = some (.builtin "sorted") := by decide +kernel
/-- own classes stand where the module's names say -/
abbrev cmOf (K : PySem.W.Frag) (mg : Str → Option Value) (lk : Addr → Prop) : Md := ⟨K, fun c => match mg c with
  | some (.ref a) => some a
  | _ => none, lk, fun _ _ => False⟩
theorem takes_nox {X : Cx} : Takes X fun _ _ _ _ => False := fun _ _ ⟨_, _, _, _, _, _, _, _, _, _, _, _, _, _, _, _, h⟩ => h.elim
/-! ### new lists of things that nobody can write -/
def chkL (d : D) : R D := match d with
  | .lst xs => if immAll xs = true then .ok (.lst xs) else .no
  | _ => .no
def fFr (f : Env → R D) : Env → R D := fun ρ => (f ρ).bind chkL
section
variable {X : Cx} {c : Cfg} {q q1 q2 qa : Q} {a b e : Expr} {es : List Expr} {p pos : Pos} {f fa fb : Env → R D} {fs : Env → R (List D)} {x : Str}
theorem fr_out {σ : L2.St} {H : Hp} {own : Ow} {xs : List D} {P : VK} (o : outR c q σ H own (Rp c.cm) (chkL (.lst xs)) P) : immAll xs = true ∧ outR c q σ H own (Rp c.cm) (R.ok (.lst xs)) P := by
  have o' : outR c q σ H own (Rp c.cm) (if immAll xs = true then R.ok (.lst xs) else .no) P := o
  by_cases h : immAll xs = true
  · rw [if_pos h] at o'; exact ⟨h, o'⟩
  · rw [if_neg h] at o'; exact False.elim o'
theorem fr_end {σ : L2.St} {H H2 : Hp} {own : Ow} {ρ : Env} {xs : List D} {vs : List V} {G : List Addr} {P : VK} {pp : Addr} (g : Gd c σ H ρ own) (s : Same H H2) (hp : H2 pp = none) (rr : Rps c.cm H2 vs xs G) (hi : immAll xs = true) (o : outR c (.n []) σ H own (Rp c.cm) (R.ok (.lst xs)) P) : P (.ref pp) (upd H2 pp (.lst vs)) := by
  have sm := upd_newSame (o := .lst vs) hp
  have hG := rr.imm hi
  subst hG
  exact o _ _ [pp] (s.trans sm) (.lst upd_same (rr.same sm)) ⟨List.nodup_cons.mpr ⟨(fun z => nomatch z), List.nodup_nil⟩, fun z hz => by
    rw [List.mem_singleton] at hz
    subst hz
    exact .inl (s.free hp)⟩
theorem bind_assoc3 {α β γ δ : Type} (r : R α) (s : R β) (k : α → β → R γ) (l : γ → R δ) : ((r.bind fun d => s.bind fun e => k d e).bind l) = r.bind fun d => s.bind fun e => (k d e).bind l := by
  cases r with
  | no => rfl
  | exc y => rfl
  | ok d => cases s with
    | no => rfl
    | exc y => rfl
    | ok e => rfl
theorem bind_assoc2 {α β γ : Type} (r : R α) (k : α → R β) (l : β → R γ) : (r.bind k).bind l = r.bind fun d => (k d).bind l := by
  cases r <;> rfl
theorem de_catN (ha : DE X c q1 a fa) (hb : DE X c q2 b fb) : DE X c (.n []) (.BinOp a .Add b pos) (fFr (f2 addD fa fb)) :=
  PE.imp (pe_op op_cat ha hb) fun σ H P ⟨ρ, own, g, o⟩ => ⟨ρ, own, g, by
    unfold fFr f2 at o
    rw [bind_assoc3] at o
    exact outR.bind o fun d v H1 F hd s1 r1 k1 o1 => ⟨ρ, own, g.same s1, outR.bind (o1.later s1) fun e u H2 G he s2 r2 k2 o2 => by
      rw [he] at o1
      have o3 : outR c (.n []) σ H own (Rp c.cm) ((ofO (addD d e)).bind chkL) P := o1
      have r1' := r1.same s2
      unfold addD at o3
      split at o3
      · exact False.elim o3
      · split at o3 <;> exact False.elim o3
      · obtain ⟨a1, vs, F', rfl, ha, rfl, ra⟩ := r1'.listed
        obtain ⟨b1, ws, G', rfl, hb, rfl, rb⟩ := r2.listed
        split at o3
        · rename_i hl
          obtain ⟨hi, o4⟩ := fr_out o3
          rw [← ra.length, ← rb.length] at hl
          exact ⟨_, _, _, _, rfl, rfl, ha, hb, Nat.le_trans hl SZ_le, fun pp hp => fr_end g (s1.trans s2) hp (ra.append rb) hi o4⟩
        · exact False.elim o3
      · exact False.elim o3⟩⟩
theorem erevN {k : Nat} {p1 p2 p3 : Pos} (ha : DE X c q1 a fa) (hK : c.cm.K = X.K := by rfl) : DE X c (.n []) (.Subscript a (.Slice none none (some (.UnaryOp .USub (.Constant (.int 1) k p1) p2)) p3) pos) (fFr (f1 revD fa)) :=
  PE.imp (pe_revL ha) fun σ H P ⟨ρ, own, g, o⟩ => ⟨ρ, own, g, by
    unfold fFr f1 at o
    rw [bind_assoc2] at o
    exact outR.bind o fun d v H1 F hd s1 r1 k1 o1 => by
      revert o1
      unfold revD
      cases hi : itm d with
      | none => exact fun o1 => False.elim o1
      | some xs =>
        cases r1 with
        | tup e rr => exact fun o1 => False.elim o1
        | @lst a' vs' ds' F' e rr =>
          cases hi
          obtain ⟨G, h1, h2⟩ := rr.rev
          intro o1
          obtain ⟨hi, o4⟩ := fr_out o1
          exact ⟨_, _, rfl, .of e, fun pp hp => fr_end g s1 hp h1 hi o4⟩
        | @frz a' vs' ds' F' e rr =>
          cases hi
          obtain ⟨G, h1, h2⟩ := rr.rev
          intro o1
          obtain ⟨hi, o4⟩ := fr_out o1
          exact ⟨_, _, rfl, by rw [← hK]; exact e.sq, fun pp hp => fr_end g s1 hp h1 hi o4⟩
        | _ => cases hi⟩
theorem cListN (hg : Gl X "list") (hm : X.mg "list" = none) (ha : DA X c q (e :: es) fs) (he : starEach (e :: es) X.env = (false, eval e X.env) :: starEach es X.env := by rfl) (hpl : (backTo pos (starEach es X.env)).any (·.1) = false := by rfl) (hK : c.cm.K = X.K := by rfl) :
    DE X c (.n []) (.Call (.Name "list" p) (e :: es) [] pos) (fFr (fS listS fs)) :=
  PE.imp (pe_callTy call_list_of hg hm bb_list ha (by decide) (by decide) he hpl) fun σ H P ⟨ρ, own, g, o⟩ => ⟨ρ, own, g, by
    unfold fFr fS at o
    rw [bind_assoc2] at o
    exact outR.bind o fun ds vs H1 F hd s1 r1 k1 o1 => by
      revert o1
      unfold listS
      split
      · rename_i d
        obtain ⟨v, rfl, r2⟩ := r1.one_inv
        cases hi : itm d with
        | none => exact fun o1 => False.elim o1
        | some ys =>
          intro o1
          obtain ⟨hi2, o4⟩ := fr_out o1
          obtain ⟨a, vs, G, rfl, hq, sl, rr⟩ := r2.seq hi
          rw [hK] at hq
          exact ⟨a, vs, rfl, hq, fun pp hp => fr_end g s1 hp rr hi2 o4⟩
      · exact fun o1 => False.elim o1⟩
theorem bind_assoc4 {α β γ δ ε : Type} (r : R α) (s : R β) (t : R γ) (k : α → β → γ → R δ) (l : δ → R ε) : ((r.bind fun d => s.bind fun e => t.bind fun f => k d e f).bind l) = r.bind fun d => s.bind fun e => t.bind fun f => (k d e f).bind l := by
  cases r with
  | no => rfl
  | exc y => rfl
  | ok d => cases s with
    | no => rfl
    | exc y => rfl
    | ok e => cases t <;> rfl
theorem eslN {lo hi : Option Expr} {p2 : Pos} {fl fh : Env → R (Option Int)} (ha : DE X c q1 a fa) (hl : DO X c lo fl) (hh : DO X c hi fh) (hK : c.cm.K = X.K := by rfl) : DE X c (.n []) (.Subscript a (.Slice lo hi none p2) pos) (fFr (fSl fa fl fh)) :=
  PE.imp (pe_slice sl_list ha hl hh) fun σ H P ⟨ρ, own, g, o⟩ => ⟨ρ, own, g, by
    unfold fFr fSl at o
    rw [bind_assoc4] at o
    exact outR.bind o fun d v H1 F hd s1 r1 k1 o1 => ⟨ρ, own, g.same s1, outR.bind (o1.later s1) fun l l' H2 G hl' s2 r2 k2 o2 =>
    ⟨ρ, own, (g.same s1).same s2, outR.bind (o2.later s2) fun h h' H3 G3 hh' s3 r3 k3 o3 => by
      rw [hl'] at o1
      have o1 : outR c (.n []) σ H own (Rp c.cm) ((fh ρ).bind fun h => (ofO (slD d l h)).bind chkL) P := o1
      rw [hh'] at o1
      have o1 : outR c (.n []) σ H own (Rp c.cm) ((ofO (slD d l h)).bind chkL) P := o1
      have s13 := (s1.trans s2).trans s3
      obtain ⟨e1, _⟩ := r2
      obtain ⟨e2, _⟩ := r3
      subst e1 e2
      have r1' := (r1.same s2).same s3
      unfold slD at o1
      cases r1' with
      | @lst a' vs' ds' F' e rr =>
        obtain ⟨G, h1, h2⟩ := rr.cut l' h'
        obtain ⟨hi2, o4⟩ := fr_out o1
        exact ⟨_, _, rfl, .of e, fun pp hp => fr_end g s13 hp h1 hi2 o4⟩
      | @frz a' vs' ds' F' e rr =>
        obtain ⟨G, h1, h2⟩ := rr.cut l' h'
        obtain ⟨hi2, o4⟩ := fr_out o1
        exact ⟨_, _, rfl, by rw [← hK]; exact e.sq, fun pp hp => fr_end g s13 hp h1 hi2 o4⟩
      | tup e rr => 
        have o1 : outR c (.n []) σ H own (Rp c.cm) ((ofO (if _ then none else some _)).bind chkL) P := o1
        split at o1 <;> exact False.elim o1
      | _ => exact False.elim o1⟩⟩⟩
/-! ### an owned list of such things, told as a new one -/
def fVarRI (i : Nat) : Env → R D := fun ρ => match ρ[i]? with
  | some (some (.lst xs)) => if immAll xs = true then .ok (.lst xs) else .no
  | _ => .no
theorem vri (i : Nat) (hk : c.kd i = .r := by rfl) (hN : X.N[i]? = some x := by rfl) (hv : Vis X.env.scope x := by first | exact Or.inl rfl | exact Or.inr (Or.inl rfl) | exact Or.inr (Or.inr rfl)) (hd : (x == ("__debug__" : Str)) = false := by decide) (hcd : (x == ("__classdict__" : Str)) = false := by decide) :
    DE X c (.n [i]) (.Name x pos) (fVarRI i) := PE.imp (pe_var hN hv hd hcd) fun σ H Q ⟨ρ, own, g, o⟩ => by
  unfold fVarRI at o
  cases h : ρ[i]? with
  | none => rw [h] at o; exact False.elim o
  | some d =>
    cases d with
    | none => rw [h] at o; exact False.elim o
    | some d =>
      rw [h] at o
      cases d with
      | lst xs =>
        have o : outR c (.n [i]) σ H own (Rp c.cm) (if immAll xs = true then R.ok (.lst xs) else .no) Q := o
        by_cases hi : immAll xs = true
        · rw [if_pos hi] at o
          obtain ⟨v, F, h1, h2, h3⟩ := g.slot i _ h
          refine ⟨v, h1, o v H F (Same.refl H) h2 ?_⟩
          unfold SOk at h3
          rw [hk] at h3
          obtain ⟨a, F', rfl, rfl, h4, h5⟩ := h3
          have hF : F' = [] := by
            obtain ⟨a2, vs, G, e1, _, e3, rr⟩ := h2.listed
            have := rr.imm hi
            subst this
            exact (List.cons.inj e3).2
          subst hF
          exact ⟨List.nodup_cons.mpr ⟨(fun z => nomatch z), List.nodup_nil⟩, fun b hb => .inr ⟨i, List.mem_singleton.mpr rfl, by rw [h4]; exact hb⟩⟩
        · rw [if_neg hi] at o
          exact False.elim o
      | _ => exact False.elim o
end
end Pd
namespace Pd
open PySem PySem.Spec PyProof.Rows L2
/-! ### the end of a law -/
theorem fz_of {K : PySem.W.Frag} {H : Hp} {a : Addr} {vs : List V} (hO : Only H) (h : SqL K H a vs) : FzL K H a vs := by
  rcases h with (h | ⟨o, h⟩) | h
  · rcases hO a with e | ⟨o, xs, e⟩ <;> rw [h] at e <;> cases e
  · exact .inl ⟨o, h⟩
  · exact .inr fun H' => .inr h
def Bits (ns : List Int) : Prop := ∀ z ∈ ns, Builtin.Int.intBits z ≤ 1048576
def spLaw (K : PySem.W.Frag) : Sp := fun vs H Q _ => ∃ (a : Addr) (ns : List Int), vs = [.ref a] ∧ ns.length ≤ 63 ∧ Bits ns ∧ FzL K H a (ns.map V.int) ∧ ∀ H', Q (.bl true) H'
theorem law_ok {P : Program} {w : World} {K : PySem.W.Frag} {mg : Str → Option Value} {base : Heap} {fa : Addr} {fd : FuncData} {x : Str} {k : Nat} {fr : Bool} {cm : Md} {Fn : List D → R D} (hK : cm.K = K) (hlk : ∀ a, ¬ cm.lk a)
    (F : FnOk P w K mg base (L2.CX P w) k fa fd [x] (spD cm 1 fr Fn)) (h : ∀ ns : List Int, ns.length ≤ 63 → Bits ns → Fn [.fz (ns.map D.int)] = .ok (.bl true)) : FnOk P w K mg base CX0 k fa fd [x] (spLaw K) :=
  fn_law F fun vs H Q E ⟨a, ns, e, hl, hb, hz, hq⟩ => by
    subst e
    refine ⟨rfl, fun a z => absurd z (hlk a), [.fz (ns.map D.int)], [], ?_, ?_⟩
    · have : Rps cm H [.ref a] [.fz (ns.map D.int)] ([] ++ []) := .cons (.frz (by rw [hK]; exact hz) (rps_ints ns)) .nil
      exact this
    · rw [h ns hl hb]
      intro v H' G s r _
      cases r
      exact hq H'
/-- a law: F gives the written part, the function object, the promise over every base -/
theorem walk_ofEB {l : PySem.W.OpenLaw} {n k : Nat} {q : Program} {loose : List Str} {XP : (Str → Option Value) → Heap → Prop} {YP : World → Heap → Prop} {d : DefRec} {x : Str}
    (hn : l.most = some n) (hn2 : n ≤ sizeLine) (h63 : n ≤ 63) (hdf : d.params.defaults = []) (hr : Room k callerA)
    (F : ∀ (w : World) (mg : Str → Option Value) (fa : Addr) (h : Heap), YP w h → h.Ns mainGlobals mg → mg d.name = some (.ref fa) →
      ∃ (K : PySem.W.Frag) (fd : FuncData), K.In h ∧ (∀ (s : Shared) (u : Value), BindsTo s fd ⟨[u], []⟩ [(x, u)]) ∧
        ∀ base : Heap, K.In base → base.Ns mainGlobals mg → FnOk l.prog w K mg base CX0 k fa fd [x] (spLaw K)) :
    PySem.W.WalkO q loose XP YP l.row.toRowW d [] (fun f vs => PySem.call f vs) := by
  refine Att.attach_callB hn hdf fun w s₀ s₁ mg mb fa o pm cd doc a vs ns G Y ho hd hcd hmg hobj hints hlen hbits hg => ?_
  obtain ⟨K, fd, KX, hb, hF⟩ := F w mg fa _ Y G.T.g hmg
  exact law_call KX G.T.g G.T.b G.T.builtins G.T.nolimit hg hobj hints (Nat.le_trans hlen hn2) hr hF hb (fun H hO hS => ⟨a, ns, rfl, Nat.le_trans hlen h63, hbits, fz_of hO hS, fun _ => rfl⟩) fun H e s' => fun z => z
end Pd
set_option Elab.async false
set_option linter.all false
set_option maxRecDepth 100000
set_option maxHeartbeats 4000000
namespace Pd
open PySem PySem.Spec PyProof.Rows L2
/-! ### parts of data, by places -/
def kids : D → List D
  | .lst xs => xs
  | .tup xs => xs
  | .ins _ _ vs => vs
  | _ => []
def withKids : D → List D → D
  | .lst _, ys => .lst ys
  | .tup _, ys => .tup ys
  | .ins c ns _, ys => .ins c ns ys
  | d, _ => d
def subP (d : D) : List Nat → Option D
  | [] => some d
  | k :: p => ((kids d)[k]?).bind fun e => subP e p
def putP (d : D) : List Nat → D → D
  | [], e => e
  | k :: p, e => match (kids d)[k]? with
    | some s => withKids d ((kids d).set k (putP s p e))
    | none => d
theorem subP_app (p q : List Nat) : ∀ d : D, subP d (p ++ q) = (subP d p).bind fun e => subP e q := by
  induction p with
  | nil => intro d; rfl
  | cons k p ih =>
    intro d
    show ((kids d)[k]?).bind (fun e => subP e (p ++ q)) = (((kids d)[k]?).bind fun e => subP e p).bind fun e => subP e q
    cases (kids d)[k]? with
    | none => rfl
    | some e => exact ih e
theorem putP_app (p q : List Nat) (e : D) : ∀ d s : D, subP d p = some s → putP d (p ++ q) e = putP d p (putP s q e) := by
  induction p with
  | nil => intro d s h; cases h; rfl
  | cons k p ih =>
    intro d s h
    have h' : ((kids d)[k]?).bind (fun e => subP e p) = some s := h
    show (match (kids d)[k]? with
      | some s => withKids d ((kids d).set k (putP s (p ++ q) e))
      | none => d) = (match (kids d)[k]? with
      | some s' => withKids d ((kids d).set k (putP s' p (putP s q e)))
      | none => d)
    cases hk : (kids d)[k]? with
    | none => rfl
    | some s' =>
      rw [hk] at h'
      show withKids d _ = withKids d _
      rw [ih s' s h']
theorem Rps.kid {cm : Md} {H : Hp} {vs : List V} {ds : List D} {F : List Addr} (r : Rps cm H vs ds F) : ∀ {k : Nat} {e : D}, ds[k]? = some e → ∃ v' A F' B, vs[k]? = some v' ∧ F = A ++ F' ++ B ∧ Rp cm H v' e F' ∧
    ∀ H' e' F'', Rp cm H' v' e' F'' → (∀ b o, H b = some o → (b ∈ A ++ B ∨ isMut o = false) → H' b = some o) → Rps cm H' vs (ds.set k e') (A ++ F'' ++ B) := by
  induction ds generalizing vs F with
  | nil => intro k e h; simp at h
  | cons d ds ih =>
    intro k e h
    cases r with
    | @cons v vs _ _ F1 F2 r1 r2 =>
      cases k with
      | zero =>
        simp at h
        subst h
        refine ⟨v, [], F1, F2, rfl, rfl, r1, fun H' e' F'' r' ag => ?_⟩
        exact .cons r' (r2.mono fun b o hb z => ag b o hb (z.imp (fun w => by simpa using w) id))
      | succ k =>
        obtain ⟨v', A, F', B, h1, h2, h3, h4⟩ := ih r2 (k := k) (e := e) (by simpa using h)
        refine ⟨v', F1 ++ A, F', B, by simpa using h1, by rw [h2]; simp, h3, fun H' e' F'' r' ag => ?_⟩
        have q := Rps.cons (r1.mono fun b o hb z => ag b o hb (z.imp (fun w => by simp [w]) id)) (h4 H' e' F'' r' fun b o hb z => ag b o hb (z.imp (fun w => by
          rcases List.mem_append.mp w with w | w <;> simp [w]) id))
        simpa [List.append_assoc] using q
theorem Rps.kidV {cm : Md} {H : Hp} {vs : List V} {ds : List D} {F : List Addr} (r : Rps cm H vs ds F) : ∀ {k : Nat} {e : D}, ds[k]? = some e → ∃ A F' B, F = A ++ F' ++ B ∧
    ∀ H' w e' F'', Rp cm H' w e' F'' → (∀ b o, H b = some o → (b ∈ A ++ B ∨ isMut o = false) → H' b = some o) → Rps cm H' (vs.set k w) (ds.set k e') (A ++ F'' ++ B) := by
  induction ds generalizing vs F with
  | nil => intro k e h; simp at h
  | cons d ds ih =>
    intro k e h
    cases r with
    | @cons v vs _ _ F1 F2 r1 r2 =>
      cases k with
      | zero =>
        refine ⟨[], F1, F2, rfl, fun H' w e' F'' r' ag => ?_⟩
        exact .cons r' (r2.mono fun b o hb z => ag b o hb (z.imp (fun w => by simpa using w) id))
      | succ k =>
        obtain ⟨A, F', B, h2, h4⟩ := ih r2 (k := k) (e := e) (by simpa using h)
        refine ⟨F1 ++ A, F', B, by rw [h2]; simp, fun H' w e' F'' r' ag => ?_⟩
        have q := Rps.cons (r1.mono fun b o hb z => ag b o hb (z.imp (fun w => by simp [w]) id)) (h4 H' w e' F'' r' fun b o hb z => ag b o hb (z.imp (fun w => by
          rcases List.mem_append.mp w with w | w <;> simp [w]) id))
        simpa [List.append_assoc] using q
def Hole (cm : Md) (H : Hp) (v : V) (d : D) (p : List Nat) (v' : V) (A B : List Addr) : Prop := ∀ H' e' F'', Rp cm H' v' e' F'' → (∀ b o, H b = some o → (b ∈ A ++ B ∨ isMut o = false) → H' b = some o) → Rp cm H' v (putP d p e') (A ++ F'' ++ B)
theorem Hole.root {cm : Md} {H : Hp} {v : V} {d : D} : Hole cm H v d [] v [] [] := fun H' e' F'' r _ => by simpa [putP] using r
theorem Hole.same {cm : Md} {H H1 : Hp} {v v' : V} {d : D} {p : List Nat} {A B : List Addr} (h : Hole cm H v d p v' A B) (s : Same H H1) : Hole cm H1 v d p v' A B := fun H' e' F'' r ag => h H' e' F'' r fun b o hb z => ag b o (s b o hb) z
theorem Hole.kid {cm : Md} {H : Hp} {v : V} {d e0 : D} {p : List Nat} {a : Addr} {A B G : List Addr} {o : HO} {vs : List V} {ds : List D} {k : Nat} {e : D} (h : Hole cm H v d p (.ref a) A B) (hs : subP d p = some e0) (hk : kids e0 = ds)
    (ha : H a = some o) (rr : Rps cm H vs ds G) (mk : ∀ H' ds' G', H' a = some o → Rps cm H' vs ds' G' → ds'.length = ds.length → Rp cm H' (.ref a) (withKids e0 ds') ((if isMut o = true then [a] else []) ++ G')) (he : ds[k]? = some e) :
    ∃ v' A' F' B', vs[k]? = some v' ∧ Rp cm H v' e F' ∧ A ++ ((if isMut o = true then [a] else []) ++ G) ++ B = A' ++ F' ++ B' ∧ subP d (p ++ [k]) = some e ∧ Hole cm H v d (p ++ [k]) v' A' B' := by
  obtain ⟨v', A2, F', B2, h1, h2, h3, h4⟩ := rr.kid he
  refine ⟨v', A ++ (if isMut o = true then [a] else []) ++ A2, F', B2 ++ B, h1, h3, by rw [h2]; simp [List.append_assoc], ?_, fun H' e' F'' r' ag => ?_⟩
  · rw [subP_app, hs]
    show ((kids e0)[k]?).bind (fun e => subP e []) = some e
    rw [hk, he]
    rfl
  · rw [putP_app p [k] e' d e0 hs]
    have hput : putP e0 [k] e' = withKids e0 (ds.set k e') := by
      show (match (kids e0)[k]? with
        | some s => withKids e0 ((kids e0).set k (putP s [] e'))
        | none => e0) = _
      rw [hk, he]
      rfl
    rw [hput]
    have ha' : H' a = some o := ag a o ha (by
      cases hm : isMut o with
      | false => exact .inr rfl
      | true => exact .inl (by simp))
    have q := h4 H' e' F'' r' fun b ob hb z => ag b ob hb (z.imp (fun w => by
      rcases List.mem_append.mp w with w | w <;> simp [w]) id)
    have q2 := mk H' _ _ ha' q (List.length_set ..)
    have q3 := h H' _ _ q2 fun b ob hb z => ag b ob hb (z.imp (fun w => by
      rcases List.mem_append.mp w with w | w <;> simp [w]) id)
    simpa [List.append_assoc] using q3
/-! ### a slot's part, read as an address -/
def rdP (c : Cfg) (i : Nat) (f : Env → R (List Nat)) : TE := fun σ H P => ∃ ρ own, Gd c σ H ρ own ∧ match f ρ with
  | .ok p => ∀ H1 d e v v' A F' B, Same H H1 → ρ[i]? = some (some d) → σ[i]? = some (some v) → SOk c own i v (A ++ F' ++ B) → Rp c.cm H1 v d (A ++ F' ++ B) → subP d p = some e → Rp c.cm H1 v' e F' → Hole c.cm H1 v d p v' A B → P v' H1
  | .exc _ => False
  | .no => False
def pRoot (i : Nat) : Env → R (List Nat) := fun ρ => match ρ[i]? with
  | some (some _) => .ok []
  | _ => .no
def stepP (d : D) (p : List Nat) (k : D) : Option (List Nat) := match subP d p, k with
  | some (.lst xs), .int z => (ixN xs.length z).map fun n => p ++ [n]
  | some (.tup xs), .int z => (ixN xs.length z).map fun n => p ++ [n]
  | _, _ => none
def curD (i : Nat) (ρ : Env) : R D := match ρ[i]? with
  | some (some d) => .ok d
  | _ => .no
def noE {α : Type} : R α → R α
  | .ok a => .ok a
  | _ => .no
def pIx (i : Nat) (fp : Env → R (List Nat)) (fk : Env → R D) : Env → R (List Nat) := fun ρ => (fp ρ).bind fun p => (noE (fk ρ)).bind fun k => (curD i ρ).bind fun d => ofO (stepP d p k)
section
variable {X : Cx} {c : Cfg} {q qa qb qk : Q} {a b e ek : Expr} {es : List Expr} {p p2 pos pos' apos cpos : Pos} {f fk fv : Env → R D} {fp : Env → R (List Nat)} {fs : Env → R (List D)} {σ : L2.St} {H H1 : Hp} {ρ : Env} {own : Ow} {i : Nat} {x : Str}
abbrev DP (X : Cx) (c : Cfg) (i : Nat) (e : Expr) (f : Env → R (List Nat)) : Prop := PE X e (rdP c i f)
theorem dp_name (hN : X.N[i]? = some x) (hv : Vis X.env.scope x) (hd : (x == ("__debug__" : Str)) = false) (hcd : (x == ("__classdict__" : Str)) = false) : DP X c i (.Name x pos) (pRoot i) :=
  PE.imp (pe_var hN hv hd hcd) fun σ H P ⟨ρ, own, g, o⟩ => by
    unfold pRoot at o
    cases h : ρ[i]? with
    | none => rw [h] at o; exact False.elim o
    | some d =>
      cases d with
      | none => rw [h] at o; exact False.elim o
      | some d =>
        rw [h] at o
        obtain ⟨v, F, h1, h2, h3⟩ := g.slot i d h
        exact ⟨v, h1, o H d d v v [] F [] (Same.refl H) rfl h1 (by simpa using h3) (by simpa using h2) rfl h2 .root⟩
/-- an item of a list, of a tuple -/
theorem ix_seq : IxR X (fun x y H P => ∃ a vs k v, x = .ref a ∧ y = .int k ∧ (SqL X.K H a vs ∨ SqT X.K H a vs) ∧ atI vs k = some v ∧ P v H) := by
  intro value slice pins s σ H x y v u P I rx ry ⟨a, vs, k, w, h1, h2, h3, h4, h5⟩ hs
  rcases h3 with h3 | h3
  · exact ix_list value slice pins s σ H x y v u P I rx ry ⟨a, vs, k, w, h1, h2, h3, h4, h5⟩ hs
  · exact ix_tup value slice pins s σ H x y v u P I rx ry ⟨a, vs, k, w, h1, h2, h3, h4, h5⟩ hs
theorem dp_ix (ha : DP X c i a fp) (hk : DE X c qk b fk) (hs : PlainIx b) : DP X c i (.Subscript a b pos) (pIx i fp fk) :=
  PE.imp (pe_ix ix_seq ha hk hs) fun σ H P ⟨ρ, own, g, o⟩ => ⟨ρ, own, g, by
    unfold pIx at o
    cases hp : fp ρ with
    | no => rw [hp] at o; exact o
    | exc x => rw [hp] at o; exact o
    | ok pp =>
      rw [hp] at o
      cases hkk : fk ρ with
      | no => simp only [R.bind_ok, hkk, noE, R.bind_no] at o
      | exc x => simp only [R.bind_ok, hkk, noE, R.bind_no] at o
      | ok kd =>
      simp only [R.bind_ok, hkk, noE] at o
      intro H1 d e v v' A F' B s1 hρ hσ so rt hsub rv hole
      refine ⟨ρ, own, g.same s1, ?_⟩
      rw [hkk]
      intro w H2 F2 s2 rw2 k2
      unfold curD at o
      rw [hρ] at o
      simp only [R.bind_ok] at o
      unfold stepP at o
      rw [hsub] at o
      have s12 := s1.trans s2
      cases kd with
      | int z =>
        cases rw2
        cases e with
        | lst xs =>
          cases hn : ixN xs.length z with
          | none => simp only [hn, Option.map_none, ofO] at o
          | some n =>
            simp only [hn, Option.map_some, ofO] at o
            cases rv with
            | @lst a1 vs _ G e1 rr =>
              have hlt := ixN_len hn
              have e1' := s2 _ _ e1
              have rr' := rr.same s2
              obtain ⟨v2, A', F2, B', h1, h2, h3, h4, h5⟩ := Hole.kid (o := .lst vs) (k := n) (hole.same s2) hsub (by rfl) e1' rr' (fun H' ds' G' ha' r' _ => .lst ha' r') (List.getElem?_eq_getElem hlt)
              refine ⟨a1, vs, z, v2, rfl, rfl, .inl (.of e1'), ?_, ?_⟩
              · unfold atI
                rw [rr.length, hn]
                exact h1
              · have e3 : A ++ (a1 :: G) ++ B = A' ++ F2 ++ B' := h3
                exact o H2 d _ v v2 A' F2 B' s12 rfl hσ (by rw [← e3]; exact so) (by rw [← e3]; exact rt.same s2) h4 h2 h5
        | tup xs =>
          cases hn : ixN xs.length z with
          | none => simp only [hn, Option.map_none, ofO] at o
          | some n =>
            simp only [hn, Option.map_some, ofO] at o
            cases rv with
            | @tup a1 vs _ G e1 rr =>
              have hlt := ixN_len hn
              have e1' := s2 _ _ e1
              have rr' := rr.same s2
              obtain ⟨v2, A', F2, B', h1, h2, h3, h4, h5⟩ := Hole.kid (o := .tup vs) (k := n) (hole.same s2) hsub (by rfl) e1' rr' (fun H' ds' G' ha' r' _ => .tup ha' r') (List.getElem?_eq_getElem hlt)
              refine ⟨a1, vs, z, v2, rfl, rfl, .inr (.of e1'), ?_, ?_⟩
              · unfold atI
                rw [rr.length, hn]
                exact h1
              · have e3 : A ++ F' ++ B = A' ++ F2 ++ B' := h3
                exact o H2 d _ v v2 A' F2 B' s12 rfl hσ (by rw [← e3]; exact so) (by rw [← e3]; exact rt.same s2) h4 h2 h5
        | _ => exact False.elim o
      | _ => cases e <;> exact False.elim o⟩
/-- an owned object within a slot's data is written -/
theorem Gd.writeM {Hs : Hp} {d' : D} {ad : Addr} {o' : HO} {F L : List Addr} {v : V} (gd : Gd c σ Hs ρ own) (s : Same Hs H) (hk : c.kd i = .m) (hi : i < ρ.length) (hσ : σ[i]? = some (some v)) (hpin : ∀ u, c.pin i = some u → v = u) (hF : own i = F) (ha : ad ∈ F) (r : Rp c.cm (upd H ad o') v d' L) (hm : isMut o' = true)
    (nd : L.Nodup) (hL0 : ∀ b ∈ L, b ∈ F ∨ Hs b = none) : ∃ own', Gd c σ (upd H ad o') (ρ.set i (some d')) own' ∧ Ext Hs own (upd H ad o') own' := by
  subst hF
  have hL : ∀ b ∈ L, b ∈ own i ∨ (Hs b = none ∧ b ∈ L) := fun b hb => (hL0 b hb).imp id fun z => ⟨z, hb⟩
  have gs := gd.same s
  have mem : ∀ {j : Nat} {a : Addr}, a ∈ (fun j => if j = i then L else own j : Ow) j → (j = i ∧ a ∈ L) ∨ (j ≠ i ∧ a ∈ own j) := fun {j a} h => by
    by_cases e : j = i
    · exact .inl ⟨e, by simpa [e] using h⟩
    · exact .inr ⟨e, by simpa [e] using h⟩
  have Ha : H ad ≠ none := by
    obtain ⟨o, e, _⟩ := gs.ownM i ad ha
    rw [e]; exact Option.some_ne_none _
  have keep : ∀ b o, H b = some o → b ≠ ad → upd H ad o' b = some o := fun b o e hb => by rw [upd_ne hb]; exact e
  have dom : ∀ b, H b ≠ none → upd H ad o' b ≠ none := fun b hb => by
    by_cases e : b = ad
    · subst e; rw [upd_same]; exact Option.some_ne_none _
    · rw [upd_ne e]; exact hb
  have other : ∀ {j : Nat} {a : Addr}, j ≠ i → a ∈ own j → a ≠ ad := fun {j a} hj h e => hj (gd.disj j i a h (by rw [e]; exact ha))
  have Lnot : ∀ {j : Nat} {a : Addr}, j ≠ i → a ∈ own j → a ∉ L := fun {j a} hj h z => by
    rcases hL a z with w | ⟨w, _⟩
    · exact hj (gd.disj j i a h w)
    · obtain ⟨o, e, _⟩ := gd.ownM j a h
      rw [w] at e; cases e
  refine ⟨fun j => if j = i then L else own j, ⟨by rw [List.length_set]; exact gd.len, fun b o h n => ?_, fun b h => dom b (gs.dom b h), fun j b h => ?_, fun j b h => ?_, fun j b h => ?_, fun j k b h h' => ?_, fun j hj hkz => ?_, ?_, fun a hl => ⟨dom a (gs.lk a hl).1, fun j z => (mem z).elim (fun w => (hL a w.2).elim (fun u => gd.ownLk u hl) fun u => gd.newLk u.1 hl) fun w => gd.ownLk w.2 hl⟩, fun j d hj => ?_⟩, ⟨fun b o h n => ?_, fun b h n j z => ?_, fun b h => dom b (Same.dom s b h)⟩⟩
  · refine keep b o (gs.base b o h n) fun e => ?_
    subst e
    rcases gd.ownN i b ha with z | z
    · rw [z] at h; cases h
    · exact n z
  · rcases mem h with ⟨_, h⟩ | ⟨_, h⟩
    · rcases hL b h with w | ⟨w, _⟩
      · exact gd.ownB i b w
      · exact gd.newB w
    · exact gd.ownB j b h
  · rcases mem h with ⟨_, h⟩ | ⟨_, h⟩
    · rcases hL b h with w | ⟨w, _⟩
      · exact gd.ownN i b w
      · exact .inl (gd.new w)
    · exact gd.ownN j b h
  · rcases mem h with ⟨_, h⟩ | ⟨hj, h⟩
    · exact r.allMut b h ((hL0 b h).elim (fun u => gd.ownLk (by rw [← show own i = own i from rfl]; exact u)) gd.newLk)
    · obtain ⟨o, e1, e2⟩ := gs.ownM j b h
      exact ⟨o, keep b o e1 (other hj h), e2⟩
  · rcases mem h with ⟨e1, h1⟩ | ⟨e1, h1⟩ <;> rcases mem h' with ⟨e2, h2⟩ | ⟨e2, h2⟩
    · rw [e1, e2]
    · exact absurd h1 (Lnot e2 h2)
    · exact absurd h2 (Lnot e1 h1)
    · exact gd.disj j k b h1 h2
  · rw [List.length_set] at hj
    show (if j = i then L else own j) = []
    rw [if_neg (fun e => by rw [e, hk] at hkz; exact absurd hkz (by decide))]
    exact gd.zer j hj hkz
  · obtain ⟨N, h1, h2⟩ := gd.sp
    rw [List.length_set]
    exact ⟨N, h1, fun j hj => by
      show (if j = i then L else own j) = []
      rw [if_neg (by omega)]; exact h2 j hj⟩
  · by_cases e : i = j
    · subst e
      rw [List.getElem?_set_self hi] at hj
      cases hj
      refine ⟨_, _, hσ, r, ?_⟩
      unfold SOk
      rw [hk]
      exact ⟨nd, by simp, hpin⟩
    · rw [List.getElem?_set_ne e] at hj
      obtain ⟨v', F2, h1, h2, h3⟩ := gd.slot j d hj
      have oj : (if j = i then L else own j) = own j := if_neg (Ne.symm e)
      have nput : ∀ a ∈ F2, (∀ k, a ∉ own k) → ∀ k, a ∉ (fun j => if j = i then L else own j : Ow) k := fun a haF hn k z => (mem z).elim (fun w => (hL a w.2).elim (hn i) fun u => h2.trk a haF u.1) fun w => hn k w.2
      have noad : ad ∉ F2 := fun z => by
        unfold SOk at h3
        revert h3
        cases c.kd j with
        | z => exact fun h3 => (h3 ad z).2 i ha
        | l => exact fun h3 => (h3.1 ad z).2 i ha
        | m => exact fun h3 => other (Ne.symm e) (by rw [← h3.2.1]; exact z) rfl
        | r =>
          rintro ⟨a, F3, e1, e2, e3, e4⟩
          rw [e2] at z
          rcases List.mem_cons.mp z with z | z
          · exact other (Ne.symm e) (by rw [e3, z]; exact List.mem_cons_self) rfl
          · exact (e4 ad z).2 i ha
      refine ⟨v', F2, h1, (h2.same s).mono fun b o eb z => keep b o eb fun e' => ?_, ?_⟩
      · subst e'
        rcases z with z | z
        · exact noad z
        · obtain ⟨o2, e2, m2⟩ := gs.ownM i b ha
          rw [eb] at e2; cases e2; rw [z] at m2; cases m2
      · unfold SOk at h3 ⊢
        revert h3
        cases c.kd j with
        | z => exact fun h3 a ha => ⟨(h3 a ha).1, nput a ha (h3 a ha).2⟩
        | l => exact fun h3 => ⟨fun a ha => ⟨(h3.1 a ha).1, nput a ha (h3.1 a ha).2⟩, h3.2⟩
        | m => exact fun h3 => ⟨h3.1, h3.2.1.trans oj.symm, h3.2.2⟩
        | r => exact fun ⟨a, F3, e1, e2, e3, e4⟩ => ⟨a, F3, e1, e2, oj.trans e3, fun b hb => ⟨(e4 b hb).1, nput b (by rw [e2]; exact List.mem_cons_of_mem _ hb) (e4 b hb).2⟩⟩
  · refine keep b o (s b o h) fun e => ?_
    subst e
    exact n i ha
  · rcases mem z with ⟨_, z⟩ | ⟨_, z⟩
    · rcases hL b z with w | ⟨w, _⟩
      · exact n i w
      · exact h w
    · exact n j z
/-- what a change of one object makes of the parts' objects -/
structure Chg (G FF N : List Addr) : Prop where
  sub : ∀ b ∈ N, b ∈ G ∨ b ∈ FF
  nd : G.Nodup → FF.Nodup → (∀ b ∈ FF, b ∉ G) → N.Nodup
theorem Chg.same {G FF : List Addr} : Chg G FF G := ⟨fun _ h => .inl h, fun h _ _ => h⟩
theorem Chg.subl {G FF N : List Addr} (h : N.Sublist G) : Chg G FF N := ⟨fun _ z => .inl (h.subset z), fun n _ _ => h.nodup n⟩
theorem Chg.perm {G FF N : List Addr} (h : N.Perm G) : Chg G FF N := ⟨fun _ z => .inl (h.subset z), fun n _ _ => h.nodup_iff.mpr n⟩
theorem Chg.app {G FF : List Addr} : Chg G FF (G ++ FF) := ⟨fun _ z => List.mem_append.mp z, fun n m d => List.nodup_append.mpr ⟨n, m, fun a ha b hb e => d b hb (by rw [← e]; exact ha)⟩⟩
theorem Chg.mid {G1 G2 FF : List Addr} : Chg (G1 ++ G2) FF (G1 ++ FF ++ G2) := ⟨fun b z => by
    rcases List.mem_append.mp z with z | z
    · exact (List.mem_append.mp z).imp (fun w => List.mem_append_left _ w) id
    · exact .inl (List.mem_append_right _ z), fun n m d => by
    have := (List.nodup_append.mp n)
    rw [List.nodup_append] at *
    refine ⟨List.nodup_append.mpr ⟨n.1, m, fun a ha b hb e => d b hb (by rw [← e]; exact List.mem_append_left _ ha)⟩, n.2.1, fun a ha b hb e => ?_⟩
    rcases List.mem_append.mp ha with ha | ha
    · exact n.2.2 a ha b hb e
    · exact d a ha (by rw [e]; exact List.mem_append_right _ hb)⟩
theorem Chg.sub_mid {G1 G0 G2 FF : List Addr} : Chg (G1 ++ G0 ++ G2) FF (G1 ++ FF ++ G2) := by
  have h : Chg (G1 ++ G2) FF (G1 ++ FF ++ G2) := .mid
  have sl : (G1 ++ G2).Sublist (G1 ++ G0 ++ G2) := (List.sublist_append_left G1 G0).append (List.Sublist.refl G2)
  exact ⟨fun b z => (h.sub b z).imp (fun w => sl.subset w) id, fun n m d => h.nd (sl.nodup n) m fun b hb z => d b hb (sl.subset z)⟩
/-- the write, told at the part -/
theorem part_write {Hs : Hp} {d e' : D} {v : V} {pp : List Nat} {ad : Addr} {o' : HO} {A B G N FF : List Addr} (gd : Gd c σ Hs ρ own) (s : Same Hs H) (hk : c.kd i = .m) (hρ : ρ[i]? = some (some d)) (hσ : σ[i]? = some (some v))
    (so : SOk c own i v (A ++ (ad :: G) ++ B)) (rt : Rp c.cm H v d (A ++ (ad :: G) ++ B)) (hole : Hole c.cm H v d pp (.ref ad) A B) (hm : isMut o' = true) (hFF : QOk c (.n []) Hs own FF) (htr : ∀ b ∈ FF, H b ≠ none) (ch : Chg G FF N)
    (r' : (∀ b o, H b = some o → b ≠ ad → upd H ad o' b = some o) → Rp c.cm (upd H ad o') (.ref ad) e' (ad :: N)) : ∃ own', Gd c σ (upd H ad o') (ρ.set i (some (putP d pp e'))) own' ∧ Ext Hs own (upd H ad o') own' := by
  unfold SOk at so
  rw [hk] at so
  obtain ⟨nd, ho, hpin⟩ := so
  have hi : i < ρ.length := (List.getElem?_eq_some_iff.mp hρ).1
  have hadm : ad ∈ A ++ (ad :: G) ++ B := by simp
  have fresh : ∀ b ∈ FF, Hs b = none := fun b hb => (hFF.2 b hb).elim id fun ⟨_, z, _⟩ => nomatch z
  have old : ∀ b ∈ A ++ (ad :: G) ++ B, Hs b ≠ none := fun b hb => by
    obtain ⟨o, e1, _⟩ := gd.ownM i b (by rw [← ho]; exact hb)
    rw [e1]; exact Option.some_ne_none _
  obtain ⟨oad, head, hmad⟩ := (gd.same s).ownM i ad (by rw [← ho]; exact hadm)
  have nd1 := List.nodup_append.mp nd
  have nd2 := List.nodup_append.mp nd1.1
  have nd3 := List.nodup_cons.mp nd2.2.1
  have nadA : ad ∉ A := fun z => nd2.2.2 ad z ad List.mem_cons_self rfl
  have nadB : ad ∉ B := fun z => nd1.2.2 ad (by simp) ad z rfl
  have q := hole (upd H ad o') e' (ad :: N) (r' fun b o hb hne => by rw [upd_ne hne]; exact hb) fun b o hb z => by
    rw [upd_ne]
    · exact hb
    · intro e1
      subst e1
      rcases z with z | z
      · rcases List.mem_append.mp z with z | z
        · exact nadA z
        · exact nadB z
      · rw [head] at hb; cases hb; rw [z] at hmad; cases hmad
  have nG : ∀ b ∈ FF, b ∉ G := fun b hb z => old b (by simp [z]) (fresh b hb)
  have memN : ∀ b ∈ N, b ∈ G ∨ b ∈ FF := ch.sub
  refine gd.writeM s hk hi hσ hpin ho.symm hadm q hm ?_ fun b hb => ?_
  · have ndN : N.Nodup := ch.nd nd3.2 hFF.1 nG
    have adN : ad ∉ N := fun z => (memN ad z).elim nd3.1 fun w => old ad hadm (fresh ad w)
    refine List.nodup_append.mpr ⟨List.nodup_append.mpr ⟨nd2.1, List.nodup_cons.mpr ⟨adN, ndN⟩, fun a ha b hb e1 => ?_⟩, nd1.2.1, fun a ha b hb e1 => ?_⟩
    · subst e1
      rcases List.mem_cons.mp hb with hb | hb
      · subst hb; exact nadA ha
      · rcases memN a hb with w | w
        · exact nd2.2.2 a ha a (List.mem_cons_of_mem _ w) rfl
        · exact old a (by simp [ha]) (fresh a w)
    · subst e1
      rcases List.mem_append.mp ha with ha | ha
      · exact nd1.2.2 a (by simp [ha]) a hb rfl
      · rcases List.mem_cons.mp ha with ha | ha
        · subst ha; exact nadB hb
        · rcases memN a ha with w | w
          · exact nd1.2.2 a (by simp [w]) a hb rfl
          · exact old a (by simp [hb]) (fresh a w)
  · rcases List.mem_append.mp hb with hb | hb
    · rcases List.mem_append.mp hb with hb | hb
      · exact .inl (by simp [hb])
      · rcases List.mem_cons.mp hb with hb | hb
        · exact .inl (by simp [hb])
        · exact (memN b hb).imp (fun w => by simp [w]) (fresh b)
    · exact .inl (by simp [hb])
end
end Pd
set_option Elab.async false
set_option linter.all false
set_option maxRecDepth 100000
set_option maxHeartbeats 4000000
namespace Pd
open PySem PySem.Spec PyProof.Rows L2
/-! ### x[..][k] = v -/
def putKs {κ : Type} [DecidableEq κ] (k : κ) (ks : List κ) : List κ := if (ks.any fun j => decide (j = k)) = true then ks else ks ++ [k]
def repV {κ : Type} [DecidableEq κ] (k : κ) (y : D) : List κ → List D → List D
  | j :: js, d :: ds => (if j = k then y else d) :: repV k y js ds
  | _, ds => ds
def putVs {κ : Type} [DecidableEq κ] (k : κ) (y : D) (ks : List κ) (vs : List D) : List D := if (ks.any fun j => decide (j = k)) = true then repV k y ks vs else vs ++ [y]
def setD (e k y : D) : Option D := match e with
  | .lst xs => match k with
    | .int z => (ixN xs.length z).map fun n => .lst (xs.set n y)
    | _ => none
  | .dK ks vs => match keyOf k with
    | some kk => if imm y = true ∧ ks.length < SZ then some (.dK (putKs kk ks) (putVs kk y ks vs)) else none
    | none => none
  | .dT ks vs => match k with
    | .tup kd => match keysOf kd with
      | some kk => if imm y = true ∧ ks.length < SZ then some (.dT (putKs kk ks) (putVs kk y ks vs)) else none
      | none => none
    | _ => none
  | _ => none
theorem map_fst_putK {κ : Type} [DecidableEq κ] (kvs : List (κ × V)) (k : κ) (v : V) : (putK kvs k v).map (·.1) = putKs k (kvs.map (·.1)) := by
  unfold putK putKs
  have e : (kvs.any fun kv => decide (kv.1 = k)) = ((kvs.map (·.1)).any fun j => decide (j = k)) := by rw [List.any_map]; rfl
  rw [e]
  split
  · rw [List.map_map]
    apply List.map_congr_left
    intro kv _
    show (if kv.1 = k then (kv.1, v) else kv).1 = kv.1
    split <;> rfl
  · simp
theorem Rps.repV {κ : Type} [DecidableEq κ] {cm : Md} {H : Hp} {k : κ} {y : D} {v : V} (hy : Rp cm H v y []) : ∀ {kvs : List (κ × V)} {ds : List D} {G : List Addr}, Rps cm H (kvs.map (·.2)) ds G → ∃ N, Rps cm H ((kvs.map fun kv => if kv.1 = k then (kv.1, v) else kv).map (·.2)) (repV k y (kvs.map (·.1)) ds) N ∧ N.Sublist G := by
  intro kvs
  induction kvs with
  | nil => intro ds G r; cases r; exact ⟨[], .nil, List.Sublist.refl _⟩
  | cons p kvs ih =>
    intro ds G r
    cases r with
    | @cons _ _ d ds F1 F2 r1 r2 =>
      obtain ⟨N, h1, h2⟩ := ih r2
      by_cases hk : p.1 = k
      · refine ⟨[] ++ N, ?_, (List.nil_sublist F1).append h2⟩
        simp only [List.map_cons, Pd.repV, hk, if_true]
        exact .cons hy h1
      · refine ⟨F1 ++ N, ?_, (List.Sublist.refl F1).append h2⟩
        simp only [List.map_cons, Pd.repV, hk, if_false]
        exact .cons r1 h1
theorem Rps.putK {κ : Type} [DecidableEq κ] {cm : Md} {H : Hp} {k : κ} {y : D} {v : V} (hy : Rp cm H v y []) {kvs : List (κ × V)} {ds : List D} {G : List Addr} (r : Rps cm H (kvs.map (·.2)) ds G) :
    ∃ N, Rps cm H ((L2.putK kvs k v).map (·.2)) (putVs k y (kvs.map (·.1)) ds) N ∧ N.Sublist G := by
  unfold L2.putK putVs
  have e : (kvs.any fun kv => decide (kv.1 = k)) = ((kvs.map (·.1)).any fun j => decide (j = k)) := by rw [List.any_map]; rfl
  rw [e]
  split
  · exact r.repV hy
  · refine ⟨G, ?_, List.Sublist.refl _⟩
    have := r.append (.one hy)
    simpa using this
def sPut (i : Nat) (fp : Env → R (List Nat)) (fk fv : Env → R D) : Env → SR := fun ρ => match fv ρ with
  | .ok y => match (fp ρ).bind fun p => (noE (fk ρ)).bind fun k => (curD i ρ).bind fun d => ofO (((subP d p).bind fun e => setD e k y).map fun e' => putP d p e') with
    | .ok d' => .nx (ρ.set i (some d'))
    | _ => .no
  | .exc x => .ex x ρ
  | .no => .no
section
variable {X : Cx} {c : Cfg} {q qa qb qk : Q} {a b e ek : Expr} {es : List Expr} {p p2 pos pos' apos cpos : Pos} {f fk fv : Env → R D} {fp : Env → R (List Nat)} {fs : Env → R (List D)} {σ : L2.St} {H H1 : Hp} {ρ : Env} {own : Ow} {i : Nat} {x : Str}
theorem set_any (hu : X.A.units + 1 < cLine) : PSet X (fun o i v H Q => rSetL o i v H Q ∨ rSetD o i v H Q) := by
  intro pins s σ H o i v ov iv u Q I ro ri rv h
  rcases h with h | h
  · exact set_list pins s σ H o i v ov iv u Q I ro ri rv h
  · exact set_dict hu pins s σ H o i v ov iv u Q I ro ri rv h
theorem ds_put (hu : X.A.units + 64 < cLine) (hk : c.kd i = .m) (hv : DE X c (.n []) e fv) (ha : DP X c i a fp) (hb : DE X c qk b fk)
    (hs : swapsWithSole [.Subscript a b p] e pos.line X.env = pure false) (hw : swappedStores [.Subscript a b p] e X.env = pure none) (h1 : (assignEach [.Subscript a b p] X.env).map (·.2) = [assign (.Subscript a b p) X.env])
    (hag : ∀ v, assign (.Subscript a b p) X.env v = (do
      let ov ← holding [v] (eval a X.env)
      let iv ← holding [v, ov] (eval b X.env)
      standAt p
      holding [v, ov, iv] (setItem ov iv v)
      release [v, ov, iv] [])) : DS X c (.Assign [.Subscript a b p] e pos) (sPut i fp fk fv) :=
  PS.imp (ps_asg hv (pg_sub ha hb (set_any (by omega)) hag) hs hw h1) fun Dn σ H ⟨ρ, own, gd, o⟩ => ⟨ρ, own, gd, by
    unfold sPut at o
    cases hfv : fv ρ with
    | no => rw [hfv] at o; exact o
    | exc y => rw [hfv] at o; exact fun C dd H' e s => o C dd σ H' own e (gd.same s) (.ofSame s)
    | ok y =>
      rw [hfv] at o
      intro vv H1 Fy s1 ry ky
      refine ⟨ρ, own, gd.same s1, ?_⟩
      have o1 : outS c H own (match (fp ρ).bind fun p => (noE (fk ρ)).bind fun k => (curD i ρ).bind fun d => ofO (((subP d p).bind fun e => setD e k y).map fun e' => putP d p e') with
        | .ok d' => .nx (ρ.set i (some d'))
        | _ => .no) Dn := o
      cases hfp : fp ρ with
      | no => rw [hfp] at o1; exact o1
      | exc z => rw [hfp] at o1; exact o1
      | ok pp =>
      rw [hfp] at o1
      cases hfk : fk ρ with
      | no => simp only [R.bind_ok, hfk, noE, R.bind_no] at o1; exact False.elim o1
      | exc z => simp only [R.bind_ok, hfk, noE, R.bind_no] at o1; exact False.elim o1
      | ok kd =>
      simp only [R.bind_ok, hfk, noE] at o1
      intro H2 d e2 v v' A F' B s2 hρ hσ so rt hsub rv hole
      refine ⟨ρ, own, (gd.same s1).same s2, ?_⟩
      rw [hfk]
      intro kv H3 Fk s3 rk kk
      have cd : curD i ρ = .ok d := by unfold curD; rw [hρ]
      simp only [cd, R.bind_ok, hsub, Option.bind_some] at o1
      have s12 := s1.trans s2
      have s13 := s12.trans s3
      have ry3 := (ry.same s2).same s3
      have rt3 := rt.same s3
      have rv3 := rv.same s3
      have hole3 := hole.same s3
      -- the end, for a changed object
      have fin : ∀ {ad : Addr} {o' : HO} {e' : D} {G N FF : List Addr}, v' = .ref ad → F' = ad :: G → setD e2 kd y = some e' → isMut o' = true → (FF = Fy ∨ FF = []) → Chg G FF N →
          ((∀ b o, H3 b = some o → b ≠ ad → upd H3 ad o' b = some o) → Rp c.cm (upd H3 ad o') (.ref ad) e' (ad :: N)) → Dn.nx σ (upd H3 ad o') := fun {ad o' e' G N FF} ev eF es hm hFF ch r' => by
        subst ev eF
        simp only [es, Option.map_some, ofO] at o1
        have kFF : QOk c (.n []) H own FF := by
          rcases hFF with rfl | rfl
          · exact ky
          · exact .nil
        have tFF : ∀ b ∈ FF, H3 b ≠ none := fun b hb => by
          rcases hFF with rfl | rfl
          · exact ry3.trk b hb
          · cases hb
        obtain ⟨own', g', x'⟩ := part_write gd s13 hk hρ hσ so rt3 hole3 hm kFF tFF ch r'
        exact o1 σ _ own' g' x'
      cases e2 with
      | lst xs =>
        cases kd with
        | int z =>
          cases hn : ixN xs.length z with
          | none => simp only [setD, hn, Option.map_none, ofO] at o1; exact False.elim o1
          | some n =>
            cases rk
            cases rv3 with
            | @lst ad vs _ G e1 rr =>
              have hlt := ixN_len hn
              refine .inl ⟨ad, vs, z, n, rfl, rfl, e1, by rw [rr.length]; exact hn, ?_⟩
              obtain ⟨A0, F0, B0, h2, h4⟩ := rr.kidV (k := n) (List.getElem?_eq_getElem hlt)
              have hadown : ad ∈ own i := by
                unfold SOk at so
                rw [hk] at so
                rw [← so.2.1]; simp
              have nad : ad ∉ G := by
                unfold SOk at so
                rw [hk] at so
                exact (List.nodup_cons.mp (List.nodup_append.mp (List.nodup_append.mp so.1).1).2.1).1
              have nFy : ad ∉ Fy := fun z => by
                have := (ky.2 ad z).resolve_right (fun ⟨_, w, _⟩ => nomatch w)
                obtain ⟨o9, e9, _⟩ := gd.ownM i ad hadown
                rw [this] at e9; cases e9
              have nm : ∀ {b : Addr} {o : HO}, H3 b = some o → isMut o = false → b ≠ ad := fun hb hm e9 => by
                subst e9; rw [e1] at hb; cases hb; cases hm
              refine fin (o' := .lst (vs.set n vv)) (e' := .lst (xs.set n y)) (G := G) (N := A0 ++ Fy ++ B0) (FF := Fy) rfl rfl (by simp [setD, hn]) rfl (.inl rfl) (by rw [h2]; exact .sub_mid) fun keep => .lst upd_same ?_
              refine h4 _ vv y Fy (ry3.mono fun b o hb z => keep b o hb (z.elim (fun w e9 => nFy (by rw [← e9]; exact w)) (nm hb))) fun b o hb z => keep b o hb (z.elim (fun w e9 => nad (by
                rw [h2, ← e9]
                rcases List.mem_append.mp w with w | w <;> simp [w])) (nm hb))
        | _ => simp only [setD, Option.map_none, ofO] at o1; exact False.elim o1
      | dK ks ds =>
        cases hkk : keyOf kd with
        | none => simp only [setD, hkk, Option.map_none, ofO] at o1; exact False.elim o1
        | some kk2 =>
          by_cases hg : imm y = true ∧ ks.length < SZ
          · cases rv3 with
            | @dK ad kvs _ _ G e1 e2 rr =>
              have hy := ry3.imm hg.1
              subst hy
              have e1 := e1.un (gd.ownLk (j := i) (by
                unfold SOk at so
                rw [hk] at so
                rw [← so.2.1]; simp))
              have nad : ad ∉ G := by
                unfold SOk at so
                rw [hk] at so
                exact (List.nodup_cons.mp (List.nodup_append.mp (List.nodup_append.mp so.1).1).2.1).1
              have nm : ∀ {b : Addr} {o : HO}, H3 b = some o → isMut o = false → b ≠ ad := fun hb hm e9 => by
                subst e9; rw [e1] at hb; cases hb; cases hm
              subst e2
              have ev := rk.key hkk
              subst ev
              obtain ⟨N, n1, n2⟩ := rr.putK (k := kk2) ry3
              refine .inr ⟨ad, _, rfl, .k e1 (by have := hg.2; rw [List.length_map] at this; exact Nat.lt_of_lt_of_le this SZ_le), ?_⟩
              refine fin (o' := .dK (putK kvs kk2 vv)) (e' := .dK (putKs kk2 (kvs.map (·.1))) (putVs kk2 y (kvs.map (·.1)) ds)) (G := G) (N := N) (FF := []) rfl rfl (by simp only [setD, hkk]; rw [if_pos hg]) rfl (.inr rfl) (.subl n2) fun keep => .dK (.inl upd_same) (map_fst_putK _ _ _).symm ?_
              exact n1.mono fun b o hb z => keep b o hb (z.elim (fun w e9 => nad (by rw [← e9]; exact n2.subset w)) (nm hb))
          · simp only [setD, hkk, if_neg hg, Option.map_none, ofO] at o1; exact False.elim o1
      | dT ks ds =>
        cases kd with
        | tup kds =>
          cases hkk : keysOf kds with
          | none => simp only [setD, hkk, Option.map_none, ofO] at o1; exact False.elim o1
          | some kk2 =>
            by_cases hg : imm y = true ∧ ks.length < SZ
            · cases rv3 with
              | @dT ad kvs _ _ G e1 e2 rr =>
                have hy := ry3.imm hg.1
                subst hy
                have e1 := e1.un (gd.ownLk (j := i) (by
                  unfold SOk at so
                  rw [hk] at so
                  rw [← so.2.1]; simp))
                have nad : ad ∉ G := by
                  unfold SOk at so
                  rw [hk] at so
                  exact (List.nodup_cons.mp (List.nodup_append.mp (List.nodup_append.mp so.1).1).2.1).1
                have nm : ∀ {b : Addr} {o : HO}, H3 b = some o → isMut o = false → b ≠ ad := fun hb hm e9 => by
                  subst e9; rw [e1] at hb; cases hb; cases hm
                subst e2
                cases rk with
                | @tup t kvs2 _ _ e3 rk2 =>
                have ev := rk2.keys hkk
                subst ev
                obtain ⟨N, n1, n2⟩ := rr.putK (k := kk2) ry3
                refine .inr ⟨ad, _, rfl, .t e1 e3 (by have := hg.2; rw [List.length_map] at this; exact Nat.lt_of_lt_of_le this SZ_le), ?_⟩
                refine fin (o' := .dT (putK kvs kk2 vv)) (e' := .dT (putKs kk2 (kvs.map (·.1))) (putVs kk2 y (kvs.map (·.1)) ds)) (G := G) (N := N) (FF := []) rfl rfl (by simp only [setD, hkk]; rw [if_pos hg]) rfl (.inr rfl) (.subl n2) fun keep => .dT (.inl upd_same) (map_fst_putK _ _ _).symm ?_
                exact n1.mono fun b o hb z => keep b o hb (z.elim (fun w e9 => nad (by rw [← e9]; exact n2.subset w)) (nm hb))
            · simp only [setD, hkk, if_neg hg, Option.map_none, ofO] at o1; exact False.elim o1
        | _ => simp only [setD, Option.map_none, ofO] at o1; exact False.elim o1
      | _ => cases kd <;> exact False.elim o1⟩
end
end Pd
set_option Elab.async false
set_option linter.all false
set_option maxRecDepth 100000
set_option maxHeartbeats 4000000
namespace Pd
open PySem PySem.Spec PyProof.Rows L2
/-! ### methods that change a list -/
def rOpL (c : Cfg) (s : List D → List D → Option (List D)) : V → List V → Hp → VK → Prop := fun x xs H Q => ∃ a vs ds ds' args G FF, x = .ref a ∧ H a = some (.lst vs) ∧ Rps c.cm H vs ds G ∧ Rps c.cm H xs args FF ∧ s ds args = some ds' ∧
  ∀ ws N r, Rps c.cm H ws ds' N → Chg G FF N → Q r (upd H a (.lst ws))
def OpL (X : Cx) (c : Cfg) (id : String) (s : List D → List D → Option (List D)) : Prop := MtR X id (rOpL c s)
def appS (ds as : List D) : Option (List D) := match as with
  | [y] => if ds.length < SZ then some (ds ++ [y]) else none
  | _ => none
def clrS (_ as : List D) : Option (List D) := match as with
  | [] => some []
  | _ => none
def revS (ds as : List D) : Option (List D) := match as with
  | [] => some ds.reverse
  | _ => none
def popS (ds as : List D) : Option (List D) := match as with
  | [] => if ds = [] then none else some ds.dropLast
  | _ => none
def insS (ds as : List D) : Option (List D) := match as with
  | [.int i, y] => if ds.length < SZ ∧ 0 ≤ i ∧ i < 1000000 then some (ds.take i.toNat ++ [y] ++ ds.drop i.toNat) else none
  | _ => none
def extS (ds as : List D) : Option (List D) := match as with
  | [.lst ys] => if ds.length + ys.length ≤ SZ ∧ immAll ys = true then some (ds ++ ys) else none
  | _ => none
def remI (k : Int) : List Int → Option (List Int)
  | [] => none
  | n :: ns => if n = k then some ns else (remI k ns).map (n :: ·)
def remS (ds as : List D) : Option (List D) := match as with
  | [.int k] => match intsOf ds with
    | some ns => (remI k ns).map fun ms => ms.map D.int
    | none => none
  | _ => none
section
variable {X : Cx} {c : Cfg}
theorem Rps.nil_inv {cm : Md} {H : Hp} {vs : List V} {F : List Addr} (r : Rps cm H vs [] F) : vs = [] ∧ F = [] := by cases r; exact ⟨rfl, rfl⟩
theorem ol_append : OpL X c "list.append" appS := by
  intro pins s σ H x xs v us Q I rx rxs ⟨a, vs, ds, ds', args, G, FF, e1, e2, r, ra, hs, q⟩
  unfold appS at hs
  split at hs
  · split at hs
    · rename_i hl
      cases hs
      obtain ⟨u, rfl, r1⟩ := ra.one_inv
      exact mt_append pins s σ H x _ v us Q I rx rxs ⟨a, vs, u, e1, rfl, e2, Nat.lt_of_lt_of_le (by rw [r.length]; exact hl) SZ_le, q _ _ _ (r.append ra) .app⟩
    · cases hs
  · cases hs
theorem ol_clear : OpL X c "list.clear" clrS := by
  intro pins s σ H x xs v us Q I rx rxs ⟨a, vs, ds, ds', args, G, FF, e1, e2, r, ra, hs, q⟩
  unfold clrS at hs
  split at hs
  · cases hs
    obtain ⟨rfl, rfl⟩ := ra.nil_inv
    exact mt_clear pins s σ H x _ v us Q I rx rxs ⟨a, vs, e1, rfl, e2, q _ _ _ .nil (.subl (List.nil_sublist _))⟩
  · cases hs
theorem ol_reverse : OpL X c "list.reverse" revS := by
  intro pins s σ H x xs v us Q I rx rxs ⟨a, vs, ds, ds', args, G, FF, e1, e2, r, ra, hs, q⟩
  unfold revS at hs
  split at hs
  · cases hs
    obtain ⟨rfl, rfl⟩ := ra.nil_inv
    obtain ⟨N, h1, h2⟩ := r.rev
    exact mt_reverse pins s σ H x _ v us Q I rx rxs ⟨a, vs, e1, rfl, e2, q _ _ _ h1 (.perm h2)⟩
  · cases hs
theorem Rps.dropLast {cm : Md} {H : Hp} {vs : List V} {ds : List D} {F : List Addr} (r : Rps cm H vs ds F) : ∃ N, Rps cm H vs.dropLast ds.dropLast N ∧ N.Sublist F := by
  obtain ⟨F1, F2, e, h1, h2⟩ := r.takeDrop (ds.length - 1)
  rw [List.dropLast_eq_take, List.dropLast_eq_take, r.length]
  exact ⟨F1, h1, by rw [e]; exact List.sublist_append_left _ _⟩
theorem ol_pop : OpL X c "list.pop" popS := by
  intro pins s σ H x xs v us Q I rx rxs ⟨a, vs, ds, ds', args, G, FF, e1, e2, r, ra, hs, q⟩
  unfold popS at hs
  split at hs
  · split at hs
    · cases hs
    · rename_i hne
      cases hs
      obtain ⟨rfl, rfl⟩ := ra.nil_inv
      obtain ⟨N, h1, h2⟩ := r.dropLast
      have hl := r.length
      have hp : 0 < vs.length := by
        rw [hl]
        exact List.length_pos_iff.mpr hne
      exact mt_pop pins s σ H x _ v us Q I rx rxs ⟨a, vs, vs[vs.length - 1], e1, rfl, e2, List.getElem?_eq_getElem (by omega), q _ _ _ h1 (.subl h2)⟩
  · cases hs
theorem ol_insert : OpL X c "list.insert" insS := by
  intro pins s σ H x xs v us Q I rx rxs ⟨a, vs, ds, ds', args, G, FF, e1, e2, r, ra, hs, q⟩
  unfold insS at hs
  split at hs
  · split at hs
    · rename_i hl
      cases hs
      obtain ⟨w, u, F1, F2, rfl, rfl, r1, r2⟩ := ra.two_inv
      cases r1
      obtain ⟨G1, G2, e3, h1, h2⟩ := r.takeDrop (Int.toNat _)
      subst e3
      have q1 := (h1.append (.one r2)).append h2
      refine mt_insert pins s σ H x _ v us Q I rx rxs ⟨a, vs, _, u, e1, rfl, e2, Nat.lt_of_lt_of_le (by rw [r.length]; exact hl.1) SZ_le, hl.2.1, by omega, q _ _ _ q1 ?_⟩
      exact .mid
    · cases hs
  · cases hs
theorem ol_extend : OpL X c "list.extend" extS := by
  intro pins s σ H x xs v us Q I rx rxs ⟨a, vs, ds, ds', args, G, FF, e1, e2, r, ra, hs, q⟩
  unfold extS at hs
  split at hs
  · split at hs
    · rename_i hl
      cases hs
      obtain ⟨w, rfl, r1⟩ := ra.one_inv
      obtain ⟨b, ws, G', rfl, hb, rfl, rb⟩ := r1.listed
      have := rb.imm hl.2
      subst this
      have q1 := r.append rb
      rw [List.append_nil] at q1
      refine mt_extend pins s σ H x _ v us Q I rx rxs ⟨a, b, vs, ws, e1, rfl, e2, hb, Nat.le_trans (by rw [r.length, rb.length]; exact hl.1) SZ_le, q _ _ _ q1 .same⟩
    · cases hs
  · cases hs
theorem remI_at {k : Int} : ∀ {ns ms : List Int}, remI k ns = some ms → ∃ j : Nat, ns[j]? = some k ∧ (∀ m : Nat, m < j → ns[m]? ≠ some k) ∧ ms = ns.eraseIdx j
  | [], ms, h => by cases h
  | n :: ns, ms, h => by
    unfold remI at h
    split at h
    · rename_i e
      cases h
      exact ⟨0, by simp [e], fun m hm => absurd hm (Nat.not_lt_zero _), rfl⟩
    · rename_i e
      obtain ⟨ms', h1, h2⟩ := Option.map_eq_some_iff.mp h
      obtain ⟨j, h3, h4, h5⟩ := remI_at h1
      refine ⟨j + 1, by simpa using h3, fun m hm => ?_, by rw [← h2, h5]; rfl⟩
      cases m with
      | zero => simpa using e
      | succ m => simpa using h4 m (by omega)
theorem rps_ints' {cm : Md} {H : Hp} : ∀ ns : List Int, Rps cm H (ns.map V.int) (ns.map D.int) []
  | [] => .nil
  | n :: ns => .cons (.int n) (rps_ints' ns)
theorem ol_remove : OpL X c "list.remove" remS := by
  intro pins s σ H x xs v us Q I rx rxs ⟨a, vs, ds, ds', args, G, FF, e1, e2, r, ra, hs, q⟩
  unfold remS at hs
  split at hs
  · split at hs
    · rename_i ns hn
      obtain ⟨ms, h1, h2⟩ := Option.map_eq_some_iff.mp hs
      obtain ⟨w, rfl, r1⟩ := ra.one_inv
      cases r1
      obtain ⟨j, h3, h4, h5⟩ := remI_at h1
      have ev := r.ints hn
      subst ev
      refine mt_remove pins s σ H x _ v us Q I rx rxs ⟨a, ns, _, j, e1, rfl, e2, h3, h4, q _ [] _ ?_ (.subl (List.nil_sublist _))⟩
      rw [← h2, h5]
      exact rps_ints' _
    · cases hs
  · cases hs
end
/-! ### the statement -/
def lstP : D → Option (List D)
  | .lst ds => some ds
  | _ => none
def sOp (i : Nat) (fp : Env → R (List Nat)) (fs : Env → R (List D)) (s : List D → List D → Option (List D)) : Env → SR := fun ρ => match fp ρ with
  | .ok p => match (curD i ρ).bind fun d => ofO ((subP d p).bind lstP) with
    | .ok ds => match fs ρ with
      | .ok as => match (curD i ρ).bind fun d => ofO ((s ds as).map fun ds' => putP d p (.lst ds')) with
        | .ok d' => .nx (ρ.set i (some d'))
        | _ => .no
      | .exc x => .ex x ρ
      | .no => .no
    | _ => .no
  | _ => .no
section
variable {X : Cx} {c : Cfg} {q qa qb qk : Q} {a b e ek : Expr} {es : List Expr} {p p2 pos pos' apos cpos : Pos} {f fk fv : Env → R D} {fp : Env → R (List Nat)} {fs : Env → R (List D)} {σ : L2.St} {H H1 : Hp} {ρ : Env} {own : Ow} {i : Nat} {x : Str} {name : Str} {id : String} {s : List D → List D → Option (List D)}
theorem op_core {Dn : Ends} (hk : c.kd i = .m) (hh : rdS c (sOp i fp fs s) Dn σ H) : rdP c i fp σ H fun x H1 => tyV X.K "list" x H1 ∧ rdL c (.n []) fs σ H1 fun xs H2 => rOpL c s x xs H2 fun _ H3 => Dn.nx σ H3 := by
  obtain ⟨ρ, own, gd, o⟩ := hh
  refine ⟨ρ, own, gd, ?_⟩
  unfold sOp at o
  cases hfp : fp ρ with
  | no => rw [hfp] at o; exact o
  | exc z => rw [hfp] at o; exact o
  | ok pp =>
  rw [hfp] at o
  intro H1 d e v v' A F' B s1 hρ hσ so rt hsub rv hole
  have cd : curD i ρ = .ok d := by unfold curD; rw [hρ]
  simp only [cd, R.bind_ok, hsub, Option.bind_some] at o
  cases e with
  | lst ds =>
    cases rv with
    | @lst ad vs _ G e1 rr =>
    refine ⟨.inl ⟨rfl, vs, .of e1⟩, ρ, own, gd.same s1, ?_⟩
    simp only [lstP, ofO] at o
    have o1 : outS c H own (match fs ρ with
      | .ok as => match ofO ((s ds as).map fun ds' => putP d pp (.lst ds')) with
        | .ok d' => .nx (ρ.set i (some d'))
        | _ => .no
      | .exc x => .ex x ρ
      | .no => .no) Dn := o
    cases hfs : fs ρ with
    | no => rw [hfs] at o1; exact o1
    | exc z => rw [hfs] at o1; exact fun C dd H' e9 s9 => o1 C dd σ H' own e9 (gd.same (s1.trans s9)) (.ofSame (s1.trans s9))
    | ok as =>
    rw [hfs] at o1
    intro us H2 FF s2 ra ka
    cases hs : s ds as with
    | none => simp only [hs, Option.map_none, ofO] at o1; exact False.elim o1
    | some ds' =>
      simp only [hs, Option.map_some, ofO] at o1
      have s12 := s1.trans s2
      have ho' : QOk c (.n []) H own FF := ka.new s1
      refine ⟨ad, vs, ds, ds', as, G, FF, rfl, s2 _ _ e1, rr.same s2, ra, hs, fun ws N _ rw1 ch => ?_⟩
      have e1' := s2 _ _ e1
      have hadown : ad ∈ own i := by
        have so' := so
        unfold SOk at so'
        rw [hk] at so'
        rw [← so'.2.1]; simp
      have nad : ad ∉ G := by
        have so' := so
        unfold SOk at so'
        rw [hk] at so'
        exact (List.nodup_cons.mp (List.nodup_append.mp (List.nodup_append.mp so'.1).1).2.1).1
      have nFF : ad ∉ FF := fun z => by
        have := (ho'.2 ad z).resolve_right (fun ⟨_, w, _⟩ => nomatch w)
        obtain ⟨o9, e9, _⟩ := gd.ownM i ad hadown
        rw [this] at e9; cases e9
      have nm : ∀ {b : Addr} {o : HO}, H2 b = some o → isMut o = false → b ≠ ad := fun hb hm e9 => by
        subst e9; rw [e1'] at hb; cases hb; cases hm
      obtain ⟨own', g', x'⟩ := part_write (e' := .lst ds') gd s12 hk hρ hσ so (rt.same s2) (hole.same s2) (o' := .lst ws) rfl ho' ra.trk ch fun keep => .lst upd_same (rw1.mono fun b o hb z => keep b o hb (z.elim (fun w e9 => by
        subst e9
        exact (ch.sub _ w).elim nad nFF) (nm hb)))
      exact o1 σ _ own' g' x'
  | _ => exact False.elim o
/-- e.name(args) for e a list within an owned slot -/
theorem ds_op (hk : c.kd i = .m) (hm : OpL X c id s) (pa : PlainAttrs "list") (slot : Slot "list" name id) (hty : typeOf (.builtin id) = pure (.type "method_descriptor")) (ha : DP X c i a fp) (hes : DA X c (.n []) (e :: es) fs)
    (hbase : attributeBase a name X.env (eval a X.env) = eval a X.env := by rfl)
    (hfew : ((backTo cpos (starEach (e :: es) X.env)).all (fun x => !x.1) && (backToKw cpos (keywordEach [] X.env)).all (fun x => x.1.isSome)
      && decide ((e :: es).length + ([] : List Keyword).length + (if ([] : List Keyword).isEmpty then 0 else 1) < 30)) = true := by rfl)
    (hline : (apos.endLine == cpos.line) = true := by rfl) (hs : starEach (e :: es) X.env = (false, eval e X.env) :: starEach es X.env := by rfl) (hplain : (backTo cpos (starEach es X.env)).any (·.1) = false := by rfl)
    (hsw : swapsWith (.Call (.Attribute a name apos) (e :: es) [] cpos) none pos.line X.env = pure false := by rfl) : DS X c (.Expr (.Call (.Attribute a name apos) (e :: es) [] cpos) pos) (sOp i fp fs s) :=
  PS.imp (ps_expr (pe_bm pa slot hty hm ha hes hbase hfew hline hs hplain) hsw) fun D σ H h => op_core hk h
theorem ds_op0 (hk : c.kd i = .m) (hm : OpL X c id s) (pa : PlainAttrs "list") (slot : Slot "list" name id) (hty : typeOf (.builtin id) = pure (.type "method_descriptor")) (ha : DP X c i a fp)
    (hbase : attributeBase a name X.env (eval a X.env) = eval a X.env := by rfl) (hline : (apos.endLine == cpos.line) = true := by rfl)
    (hsw : swapsWith (.Call (.Attribute a name apos) [] [] cpos) none pos.line X.env = pure false := by rfl) : DS X c (.Expr (.Call (.Attribute a name apos) [] [] cpos) pos) (sOp i fp fNil s) :=
  PS.imp (ps_expr (pe_bm0 pa slot hty hm ha hbase hline) hsw) fun Dn σ H (h : rdS c (sOp i fp fNil s) Dn σ H) => by
    have h1 := op_core (X := X) hk h
    obtain ⟨ρ, own, g, o⟩ := h1
    refine ⟨ρ, own, g, ?_⟩
    revert o
    cases fp ρ with
    | no => exact fun o => o
    | exc x => exact fun o => o
    | ok pp =>
      intro o H1 d e v v' A F' B s1 h1 h2 h3 h4 h5 h6 h7
      obtain ⟨t1, ρ2, own2, g2, o2⟩ := o H1 d e v v' A F' B s1 h1 h2 h3 h4 h5 h6 h7
      exact ⟨t1, o2 [] H1 [] (Same.refl _) .nil .nil⟩
end
end Pd
set_option Elab.async false
set_option linter.all false
set_option maxRecDepth 100000
set_option maxHeartbeats 4000000
namespace Pd
open PySem PySem.Spec PyProof.Rows L2
/-! ### a dict locked while it is walked -/
def isDict : HO → Bool
  | .dK _ => true
  | .dT _ => true
  | _ => false
def lkMd (cm : Md) (lk : Addr → Prop) : Md := ⟨cm.K, cm.cm, lk, cm.ex⟩
abbrev lkOf (lk : Addr → Prop) (a : Addr) : Addr → Prop := fun b => lk b ∨ b = a
section
variable {cm : Md} {H : Hp} {a : Addr} {u : HO} {od : Obj}
theorem lock_dk (ha : H a = some u) (hu : isDict u = true) {b : Addr} {w : HO} (h : Dk cm H b w) : Dk (lkMd cm (lkOf cm.lk a)) (upd H a (.frz od u)) b w := by
  by_cases e : b = a
  · subst e
    rcases h with h | ⟨l, o, h⟩
    · rw [ha] at h
      cases h
      exact .inr ⟨.inr rfl, od, upd_same⟩
    · rw [ha] at h
      cases h
      cases hu
  · rcases h with h | ⟨l, o, h⟩
    · exact .inl (by rw [upd_ne e]; exact h)
    · exact .inr ⟨.inl l, o, by rw [upd_ne e]; exact h⟩
theorem lock_ne (ha : H a = some u) (hu : isDict u = true) {b : Addr} {o : HO} (h : H b = some o) (ho : isDict o = false) : b ≠ a := fun e => by
  subst e
  rw [ha] at h
  cases h
  rw [hu] at ho
  cases ho
mutual
theorem lock_rp (ha : H a = some u) (hu : isDict u = true) {v : V} {d : D} {F : List Addr} : Rp cm H v d F → Rp (lkMd cm (lkOf cm.lk a)) (upd H a (.frz od u)) v d F
  | .non => .non
  | .bl _ => .bl _
  | .int _ => .int _
  | .str _ => .str _
  | .tup e r => .tup (by rw [upd_ne (lock_ne ha hu e rfl)]; exact e) (lock_rps ha hu r)
  | .lst e r => .lst (by rw [upd_ne (lock_ne ha hu e rfl)]; exact e) (lock_rps ha hu r)
  | .frz e r => .frz (e.imp (fun ⟨o, e⟩ => ⟨o, by rw [upd_ne (lock_ne ha hu e rfl)]; exact e⟩) id) (lock_rps ha hu r)
  | .dK e h r => .dK (lock_dk ha hu e) h (lock_rps ha hu r)
  | .dT e h r => .dT (lock_dk ha hu e) h (lock_rps ha hu r)
  | .ins e h h' r => .ins (by rw [upd_ne (lock_ne ha hu e rfl)]; exact e) h h' (lock_rps ha hu r)
  | .exc e => .exc e
theorem lock_rps (ha : H a = some u) (hu : isDict u = true) {v : List V} {d : List D} {F : List Addr} : Rps cm H v d F → Rps (lkMd cm (lkOf cm.lk a)) (upd H a (.frz od u)) v d F
  | .nil => .nil
  | .cons r s => .cons (lock_rp ha hu r) (lock_rps ha hu s)
end
theorem unlock_dk (ha : H a = some (.frz od u)) (hu : isDict u = true) {b : Addr} {w : HO} (hw : isDict w = true) (h : Dk (lkMd cm (lkOf cm.lk a)) H b w) : Dk cm (upd H a u) b w := by
  by_cases e : b = a
  · subst e
    rcases h with h | ⟨l, o, h⟩
    · rw [ha] at h
      cases h
      cases hw
    · rw [ha] at h
      cases h
      exact .inl upd_same
  · rcases h with h | ⟨l, o, h⟩
    · exact .inl (by rw [upd_ne e]; exact h)
    · exact .inr ⟨l.resolve_right e, o, by rw [upd_ne e]; exact h⟩
theorem unlock_ne (ha : H a = some (.frz od u)) {b : Addr} {o : HO} (h : H b = some o) (ho : ∀ z, o ≠ .frz z u) : b ≠ a := fun e => by
  subst e
  rw [ha] at h
  cases h
  exact ho _ rfl
mutual
theorem unlock_rp (ha : H a = some (.frz od u)) (hu : isDict u = true) {v : V} {d : D} {F : List Addr} : Rp (lkMd cm (lkOf cm.lk a)) H v d F → Rp cm (upd H a u) v d F
  | .non => .non
  | .bl _ => .bl _
  | .int _ => .int _
  | .str _ => .str _
  | .tup e r => .tup (by rw [upd_ne (unlock_ne ha e (fun _ z => by cases z))]; exact e) (unlock_rps ha hu r)
  | .lst e r => .lst (by rw [upd_ne (unlock_ne ha e (fun _ z => by cases z))]; exact e) (unlock_rps ha hu r)
  | .frz e r => .frz (e.imp (fun ⟨o, e⟩ => ⟨o, by rw [upd_ne (unlock_ne ha e (fun _ z => by cases z; cases hu))]; exact e⟩) id) (unlock_rps ha hu r)
  | .dK e h r => .dK (unlock_dk ha hu rfl e) h (unlock_rps ha hu r)
  | .dT e h r => .dT (unlock_dk ha hu rfl e) h (unlock_rps ha hu r)
  | .ins e h h' r => .ins (by rw [upd_ne (unlock_ne ha e (fun _ z => by cases z))]; exact e) h h' (unlock_rps ha hu r)
  | .exc e => .exc e
theorem unlock_rps (ha : H a = some (.frz od u)) (hu : isDict u = true) {v : List V} {d : List D} {F : List Addr} : Rps (lkMd cm (lkOf cm.lk a)) H v d F → Rps cm (upd H a u) v d F
  | .nil => .nil
  | .cons r s => .cons (unlock_rp ha hu r) (unlock_rps ha hu s)
end
end
/-- the frame's terms while such things are locked; nothing is raised there -/
def Cfg.lkd (c : Cfg) (lk : Addr → Prop) (H0 : Hp) : Cfg := ⟨lkMd c.cm lk, c.kd, c.A, H0, c.io, fun _ _ _ _ => False, c.fr, c.pin⟩
def lkH0 (H0 : Hp) (a : Addr) (od : Obj) (u : HO) : Hp := fun b => if b = a then (match H0 b with
  | some _ => some (.frz od u)
  | none => none) else H0 b
theorem lkH0_none {H0 : Hp} {a b : Addr} {od : Obj} {u : HO} : lkH0 H0 a od u b = none ↔ H0 b = none := by
  unfold lkH0
  by_cases e : b = a
  · subst e
    rw [if_pos rfl]
    cases H0 b <;> simp
  · rw [if_neg e]
section
variable {c : Cfg} {σ : L2.St} {H H1 : Hp} {ρ ρ' : Env} {own own' : Ow} {a : Addr} {u : HO} {od : Obj}
theorem lkd_B {lk : Addr → Prop} {b : Addr} : (c.lkd lk (lkH0 c.H0 a od u)).B b ↔ c.B b := or_congr Iff.rfl lkH0_none
theorem Gd.lock (g : Gd c σ H ρ own) (ha : H a = some u) (hu : isDict u = true) (no : ∀ j, a ∉ own j) : Gd (c.lkd (lkOf c.cm.lk a) (lkH0 c.H0 a od u)) σ (upd H a (.frz od u)) ρ own where
  len := g.len
  base := fun b o h n => by
    have h : lkH0 c.H0 a od u b = some o := h
    unfold lkH0 at h
    by_cases e : b = a
    · subst e
      rw [if_pos rfl] at h
      rw [upd_same]
      cases q : c.H0 b with
      | none => rw [q] at h; cases h
      | some _ => rw [q] at h; exact h
    · rw [if_neg e] at h
      rw [upd_ne e]
      exact g.base b o h n
  dom := fun b h => by
    have h : c.H0 b ≠ none := fun z => h (lkH0_none.mpr z)
    by_cases e : b = a
    · subst e; rw [upd_same]; exact Option.some_ne_none _
    · rw [upd_ne e]; exact g.dom b h
  ownB := fun i b h => lkd_B.mpr (g.ownB i b h)
  ownN := fun i b h => (g.ownN i b h).imp lkH0_none.mpr id
  ownM := fun i b h => by
    obtain ⟨o, e, m⟩ := g.ownM i b h
    exact ⟨o, by rw [upd_ne (fun e => no i (by rw [← e]; exact h))]; exact e, m⟩
  disj := g.disj
  zer := g.zer
  sp := g.sp
  lk := fun b h => by
    rcases h with h | h
    · obtain ⟨h1, h2⟩ := g.lk b h
      refine ⟨?_, h2⟩
      by_cases e : b = a
      · subst e; rw [upd_same]; exact Option.some_ne_none _
      · rw [upd_ne e]; exact h1
    · subst h
      exact ⟨by rw [upd_same]; exact Option.some_ne_none _, no⟩
  slot := fun i d h => by
    obtain ⟨v, F, h1, h2, h3⟩ := g.slot i d h
    refine ⟨v, F, h1, lock_rp ha hu h2, ?_⟩
    unfold SOk at h3 ⊢
    show match c.kd i with
      | .z => ∀ a_1 ∈ F, _ ∧ ∀ j, a_1 ∉ own j
      | .l => (∀ a_1 ∈ F, _ ∧ ∀ j, a_1 ∉ own j) ∧ c.pin i = some v
      | .m => F.Nodup ∧ F = own i ∧ ∀ u, c.pin i = some u → v = u
      | .r => ∃ a F', v = .ref a ∧ F = a :: F' ∧ own i = [a] ∧ ∀ b ∈ F', _ ∧ ∀ j, b ∉ own j
    revert h3
    cases c.kd i with
    | z => exact fun h3 b hb => ⟨lkd_B.mpr (h3 b hb).1, (h3 b hb).2⟩
    | l => exact fun h3 => ⟨fun b hb => ⟨lkd_B.mpr (h3.1 b hb).1, (h3.1 b hb).2⟩, h3.2⟩
    | m => exact id
    | r => exact fun ⟨a, F', e1, e2, e3, e4⟩ => ⟨a, F', e1, e2, e3, fun b hb => ⟨lkd_B.mpr (e4 b hb).1, (e4 b hb).2⟩⟩
theorem Gd.unlock (g0 : Gd c σ H ρ own) (h0 : H a = some u) {σ' : L2.St} (g : Gd (c.lkd (lkOf c.cm.lk a) (lkH0 c.H0 a od u)) σ' H1 ρ' own') (ha : H1 a = some (.frz od u)) (hu : isDict u = true) : Gd c σ' (upd H1 a u) ρ' own' where
  len := g.len
  base := fun b o h n => by
    by_cases e : b = a
    · subst e
      rw [upd_same]
      rw [← h0]
      exact g0.base b o h n
    · rw [upd_ne e]
      refine g.base b o ?_ n
      show lkH0 c.H0 a od u b = some o
      unfold lkH0
      rw [if_neg e]; exact h
  dom := fun b h => by
    by_cases e : b = a
    · subst e; rw [upd_same]; exact Option.some_ne_none _
    · rw [upd_ne e]; exact g.dom b fun z => h (lkH0_none.mp z)
  ownB := fun i b h => lkd_B.mp (g.ownB i b h)
  ownN := fun i b h => (g.ownN i b h).imp lkH0_none.mp id
  ownM := fun i b h => by
    obtain ⟨o, e, m⟩ := g.ownM i b h
    exact ⟨o, by rw [upd_ne (fun e => (g.lk a (.inr rfl)).2 i (by rw [← e]; exact h))]; exact e, m⟩
  disj := g.disj
  zer := g.zer
  sp := g.sp
  lk := fun b h => by
    obtain ⟨h1, h2⟩ := g.lk b (.inl h)
    refine ⟨?_, h2⟩
    by_cases e : b = a
    · subst e; rw [upd_same]; exact Option.some_ne_none _
    · rw [upd_ne e]; exact h1
  slot := fun i d h => by
    obtain ⟨v, F, h1, h2, h3⟩ := g.slot i d h
    refine ⟨v, F, h1, unlock_rp ha hu h2, ?_⟩
    unfold SOk at h3 ⊢
    have h3 : match c.kd i with
      | .z => ∀ a_1 ∈ F, (c.lkd (lkOf c.cm.lk a) (lkH0 c.H0 a od u)).B a_1 ∧ ∀ j, a_1 ∉ own' j
      | .l => (∀ a_1 ∈ F, (c.lkd (lkOf c.cm.lk a) (lkH0 c.H0 a od u)).B a_1 ∧ ∀ j, a_1 ∉ own' j) ∧ c.pin i = some v
      | .m => F.Nodup ∧ F = own' i ∧ ∀ u, c.pin i = some u → v = u
      | .r => ∃ a0 F', v = .ref a0 ∧ F = a0 :: F' ∧ own' i = [a0] ∧ ∀ b ∈ F', (c.lkd (lkOf c.cm.lk a) (lkH0 c.H0 a od u)).B b ∧ ∀ j, b ∉ own' j := h3
    revert h3
    cases c.kd i with
    | z => exact fun h3 b hb => ⟨lkd_B.mp (h3 b hb).1, (h3 b hb).2⟩
    | l => exact fun h3 => ⟨fun b hb => ⟨lkd_B.mp (h3.1 b hb).1, (h3.1 b hb).2⟩, h3.2⟩
    | m => exact id
    | r => exact fun ⟨a, F', e1, e2, e3, e4⟩ => ⟨a, F', e1, e2, e3, fun b hb => ⟨lkd_B.mp (e4 b hb).1, (e4 b hb).2⟩⟩
theorem Ext.unlock (h0 : H a = some u) (no : ∀ j, a ∉ own j) (x : Ext (upd H a (.frz od u)) own H1 own') : Ext H own (upd H1 a u) own' where
  keep := fun b o h n => by
    by_cases e : b = a
    · subst e; rw [upd_same, ← h0]; exact h
    · rw [upd_ne e]; exact x.keep b o (by rw [upd_ne e]; exact h) n
  out := fun b h n => x.out b (by
    by_cases e : b = a
    · subst e; rw [upd_same]; exact Option.some_ne_none _
    · rw [upd_ne e]; exact h) n
  dom := fun b h => by
    by_cases e : b = a
    · subst e; rw [upd_same]; exact Option.some_ne_none _
    · rw [upd_ne e]; exact x.dom b (by rw [upd_ne e]; exact h)
end
/-! ### a loop, from its walk -/
section
variable {X : Cx} {c : Cfg} {q qa : Q} {tg e iter : Expr} {st : Stmt} {a b sts body : List Stmt} {p pos : Pos} {f fe : Env → R D} {ft : Env → R Bool} {fi fs : Env → R (List D)} {σ : L2.St} {H H1 : Hp} {ρ : Env} {own : Ow} {g g' : Env → SR}
  {h : D → Env → Option Env} {ts : List Nat} {i : Nat} {x : Str}
theorem for_core {Dn : Ends} {ds : List D} {J : It} (gd : Gd c σ H1 ρ own) (it : ItOk c H1 own J ds) (o : outS c H1 own (forD h g ds ρ) Dn) :
    ∃ W : Nat → Nat → L2.St → Hp → Prop, (∃ m, W 0 m σ H1) ∧ ∀ i m σ H, W i m σ H →
      (J.stop i H ∧ Dn.nx σ H) ∨ (J.go i H ∧ ∃ N : L2.St → Hp → Prop, (∀ σ' H', N σ' H' → ∃ m', m' < m ∧ W (i + 1) m' σ' H') ∧ ∀ x H', J.yld i H x H' → rdG c h ts x σ H' fun σ2 H2 => rdS c g { Dn with nx := N, ct := N, bk := Dn.nx } σ2 H2) := by
  refine ⟨fun i m σ' H' => m = ds.length - i ∧ i ≤ ds.length ∧ ∃ ρi own', Gd c σ' H' ρi own' ∧ Ext H1 own H' own' ∧ outS c H' own' (forD h g (ds.drop i) ρi) Dn,
    ⟨ds.length, by simp, Nat.zero_le _, ρ, own, gd, .refl, o⟩, ?_⟩
  rintro i m σ3 H3 ⟨rfl, hi, ρi, own3, g3, x3, o3⟩
  by_cases hlt : i < ds.length
  · refine .inr ⟨it.go i H3 own3 _ x3 g3.ownM (List.getElem?_eq_getElem hlt), fun σ' H' => i + 1 ≤ ds.length ∧ ∃ ρi own', Gd c σ' H' ρi own' ∧ Ext H1 own H' own' ∧ outS c H' own' (forD h g (ds.drop (i + 1)) ρi) Dn,
      fun σ' H' ⟨a1, a2⟩ => ⟨ds.length - (i + 1), by omega, rfl, a1, a2⟩, fun y H4 hy => ?_⟩
    obtain ⟨s4, F, ry, zy⟩ := it.yld i H3 own3 _ y H4 x3 g3.ownM (List.getElem?_eq_getElem hlt) hy
    rw [List.drop_eq_getElem_cons hlt] at o3
    unfold forD at o3
    cases hh : h ds[i] ρi with
    | none => rw [hh] at o3; exact False.elim o3
    | some ρ1 =>
      rw [hh] at o3
      refine ⟨ρi, own3, ds[i], F, g3.same s4, ry, zy, ρ1, hh, fun σ5 g5 _ => ⟨ρ1, own3, g5, ?_⟩⟩
      have x4 : Ext H3 own3 H4 own3 := .ofSame s4
      have o4 := outS.later x4 o3
      revert o4
      show outS c H4 own3 (match g ρ1 with
        | .nx ρ2 => forD h g (ds.drop (i + 1)) ρ2
        | .ct ρ2 => forD h g (ds.drop (i + 1)) ρ2
        | .bk ρ2 => .nx ρ2
        | .rt d ρ2 => .rt d ρ2
        | .ex x ρ2 => .ex x ρ2
        | .no => .no) Dn → _
      cases g ρ1 with
      | nx ρ2 => exact fun o4 σ' H' own' g' x' => ⟨hlt, ρ2, own', g', (x3.trans x4).trans x', outS.later x' o4⟩
      | ct ρ2 => exact fun o4 σ' H' own' g' x' => ⟨hlt, ρ2, own', g', (x3.trans x4).trans x', outS.later x' o4⟩
      | bk ρ2 => exact fun o => o
      | rt d ρ2 => exact fun o => o
      | ex y ρ2 => exact fun o => o
      | no => exact fun o => o
  · have hie : i = ds.length := by omega
    subst hie
    rw [List.drop_length] at o3
    exact .inl ⟨it.stop _ H3 own3 x3 g3.ownM (Nat.le_refl _), o3 σ3 H3 own3 g3 .refl⟩
/-! ### the walks of a locked dict -/
def keysD : D → Option (List D)
  | .dK ks _ => some (ks.map kD)
  | .dT ks _ => some (ks.map tkD)
  | _ => none
def itemsD : D → Option (List D)
  | .dK ks vs => some ((ks.zip vs).map fun p => .tup [kD p.1, p.2])
  | _ => none
theorem rp_key {cm : Md} {H : Hp} (k : Key) : Rp cm H (kV k) (kD k) [] := by
  cases k with
  | inl i => exact .int i
  | inr y => exact .str y
theorem rps_key {cm : Md} {H : Hp} : ∀ ks : List Key, Rps cm H (ks.map kV) (ks.map kD) []
  | [] => .nil
  | k :: ks => .cons (rp_key k) (rps_key ks)
theorem frz_ext {u : HO} {d : Addr} {o : Obj} {own' : Ow} (no : ∀ j, d ∉ own j) (x : Ext H1 own H own') (e : H1 d = some (.frz o u)) : H d = some (.frz o u) := x.keep d _ e no
theorem itk_ok {d : Addr} {o : Obj} {kvs : List (Key × V)} (e : H1 d = some (.frz o (.dK kvs))) (no : ∀ j, d ∉ own j) : ItOk c H1 own (Itk d o kvs) ((kvs.map (·.1)).map kD) where
  go := fun i H own' d' x _ hd => ⟨frz_ext no x e, by
    have := (List.getElem?_eq_some_iff.mp hd).1
    simpa using this⟩
  yld := fun i H own' d' y H' x _ hd hy => by
    obtain ⟨rfl, k, v, hk, rfl⟩ := hy
    refine ⟨Same.refl _, [], ?_, fun a h => nomatch h⟩
    rw [List.getElem?_map, List.getElem?_map, hk] at hd
    cases hd
    exact rp_key k
  stop := fun i H own' x _ hi => ⟨frz_ext no x e, by simpa using hi⟩
theorem itkt_ok {d : Addr} {o : Obj} {kvs : List (List Key × V)} (e : H1 d = some (.frz o (.dT kvs))) (no : ∀ j, d ∉ own j) : ItOk c H1 own (Itkt d o kvs) ((kvs.map (·.1)).map tkD) where
  go := fun i H own' d' x _ hd => ⟨frz_ext no x e, by
    have := (List.getElem?_eq_some_iff.mp hd).1
    simpa using this⟩
  yld := fun i H own' d' y H' x _ hd hy => by
    obtain ⟨rfl, k, v, q, hk, rfl, hq⟩ := hy
    refine ⟨Same.refl _, [], ?_, fun a h => nomatch h⟩
    rw [List.getElem?_map, List.getElem?_map, hk] at hd
    cases hd
    exact .tup hq (rps_key k)
  stop := fun i H own' x _ hi => ⟨frz_ext no x e, by simpa using hi⟩
theorem iti_ok {d : Addr} {o : Obj} {kvs : List (Key × V)} {ds : List D} {G : List Addr} (gd : Gd c σ H1 ρ own) (e : H1 d = some (.frz o (.dK kvs))) (no : ∀ j, d ∉ own j) (rr : Rps c.cm H1 (kvs.map (·.2)) ds G) (hz : ∀ a ∈ G, c.B a ∧ ∀ j, a ∉ own j) :
    ItOk c H1 own (Iti d o kvs) ((((kvs.map (·.1)).zip ds)).map fun p => .tup [kD p.1, p.2]) := by
  have hl : (kvs.map (·.2)).length = ds.length := rr.length
  have len : ((((kvs.map (·.1)).zip ds)).map fun p => (.tup [kD p.1, p.2] : D)).length = kvs.length := by simp at hl ⊢; omega
  refine ⟨fun i H own' d' x _ hd => ⟨frz_ext no x e, ?_⟩, fun i H own' d' y H' x _ hd hy => ?_, fun i H own' x _ hi => ⟨frz_ext no x e, by rw [len] at hi; exact hi⟩⟩
  · have := (List.getElem?_eq_some_iff.mp hd).1
    rw [len] at this; exact this
  · obtain ⟨T, k, v, hk, rfl, hT, rfl⟩ := hy
    have hi : i < ds.length := by
      have := (List.getElem?_eq_some_iff.mp hk).1
      simp at hl
      omega
    have hz2 : ((kvs.map (·.1)).zip ds)[i]? = some (k, ds[i]) := List.getElem?_zip_eq_some.mpr ⟨by rw [List.getElem?_map, hk]; rfl, List.getElem?_eq_getElem hi⟩
    rw [List.getElem?_map, hz2] at hd
    cases hd
    have sm := upd_newSame (o := .tup [kV k, v]) hT
    obtain ⟨G', h3, h4⟩ := item_ok (a := d) gd x rr hz (List.getElem?_eq_getElem hi) (by rw [List.getElem?_map, hk]; rfl)
    exact ⟨sm, G', .tup upd_same (by simpa using Rps.cons (rp_key k) (.one (h3.same sm))), h4⟩
/-! ### for k in d, for k, v in d.items() -/
def noX : SR → SR
  | .ex _ _ => .no
  | r => r
def sForK (kf : D → Option (List D)) (i : Nat) (h : D → Env → Option Env) (g : Env → SR) : Env → SR := fun ρ => match (curD i ρ).bind fun d => ofO (kf d) with
  | .ok ds => noX (forD h g ds ρ)
  | _ => .no
theorem RQ_lkd {a : Addr} {od : Obj} {u : HO} {lk : Addr → Prop} {F : List Addr} : RQ (c.lkd lk (lkH0 c.H0 a od u)) own F ↔ RQ c own F := by
  unfold RQ
  show (if c.fr = true then F.Nodup ∧ (∀ b ∈ F, lkH0 c.H0 a od u b = none) ∧ ∀ i, c.pin i ≠ none → ∀ b ∈ F, b ∉ own i else ∀ b ∈ F, (c.lkd lk (lkH0 c.H0 a od u)).B b) ↔ _
  split
  · exact and_congr Iff.rfl (and_congr (forall_congr' fun b => forall_congr' fun _ => lkH0_none) Iff.rfl)
  · exact forall_congr' fun b => forall_congr' fun _ => lkd_B
theorem outS.lock {Dn : Ends} {a : Addr} {u : HO} {od : Obj} {r : SR} (gd : Gd c σ H ρ own) (ha : H a = some u) (hu : isDict u = true) (no : ∀ j, a ∉ own j) (o : outS c H own (noX r) Dn) :
    outS (c.lkd (lkOf c.cm.lk a) (lkH0 c.H0 a od u)) (upd H a (.frz od u)) own r ⟨fun σ' H' => H' a = some (.frz od u) ∧ Dn.nx σ' (upd H' a u), fun v H' => H' a = some (.frz od u) ∧ Dn.rt v (upd H' a u), fun σ' H' => H' a = some (.frz od u) ∧ Dn.bk σ' (upd H' a u), fun σ' H' => H' a = some (.frz od u) ∧ Dn.ct σ' (upd H' a u)⟩ := by
  have fz : ∀ {H' : Hp} {own' : Ow}, Ext (upd H a (.frz od u)) own H' own' → H' a = some (.frz od u) := fun x => x.keep a _ upd_same no
  cases r with
  | nx ρ' => exact fun σ' H' own' g' x' => ⟨fz x', o σ' _ own' (gd.unlock ha g' (fz x') hu) (x'.unlock ha no)⟩
  | bk ρ' => exact fun σ' H' own' g' x' => ⟨fz x', o σ' _ own' (gd.unlock ha g' (fz x') hu) (x'.unlock ha no)⟩
  | ct ρ' => exact fun σ' H' own' g' x' => ⟨fz x', o σ' _ own' (gd.unlock ha g' (fz x') hu) (x'.unlock ha no)⟩
  | rt d ρ' => exact fun v σ' H' own' F g' x' r' rq => ⟨fz x', o v σ' _ own' F (gd.unlock ha g' (fz x') hu) (x'.unlock ha no) (unlock_rp (fz x') hu r') (RQ_lkd.mp rq)⟩
  | ex y ρ' => exact False.elim o
  | no => exact False.elim o
theorem Gd.lkd0 (g : Gd c σ H ρ own) : Gd (c.lkd c.cm.lk c.H0) σ H ρ own := ⟨g.len, g.base, g.dom, g.ownB, g.ownN, g.ownM, g.disj, g.zer, g.sp, g.lk, g.slot⟩
theorem Gd.unlkd0 (g : Gd (c.lkd c.cm.lk c.H0) σ H ρ own) : Gd c σ H ρ own := ⟨g.len, g.base, g.dom, g.ownB, g.ownN, g.ownM, g.disj, g.zer, g.sp, g.lk, g.slot⟩
theorem outS.lkd0 {Dn : Ends} {r : SR} (o : outS c H own (noX r) Dn) : outS (c.lkd c.cm.lk c.H0) H own r Dn := by
  cases r with
  | nx ρ' => exact fun σ' H' own' g' x' => o σ' H' own' g'.unlkd0 x'
  | bk ρ' => exact fun σ' H' own' g' x' => o σ' H' own' g'.unlkd0 x'
  | ct ρ' => exact fun σ' H' own' g' x' => o σ' H' own' g'.unlkd0 x'
  | rt d ρ' => exact fun v σ' H' own' F g' x' r' rq => o v σ' H' own' F g'.unlkd0 x' r' rq
  | ex y ρ' => exact False.elim o
  | no => exact False.elim o
/-- a walk over the dict in slot i, in whatever way (te: its wish, given the walk) -/
theorem ds_forW {kf : D → Option (List D)} {wi : TI} (hk : c.kd i = .z) (hp : PassesOwn (model X.prog X.w) X.A X.env X.xe) (hc : X.calm = true) (hi : PI X tg iter wi)
    (hw : ∀ (c : Cfg) (σ : L2.St) (H : Hp) (ρ : Env) (own : Ow) (a : Addr) (o : Obj) (u : HO) (d : D) (ds : List D) (F : List Addr) (R : It → Hp → Prop), c.kd i = .z → Gd c σ H ρ own → σ[i]? = some (some (.ref a)) → H a = some (.frz o u) → (∀ j, a ∉ own j) → Rp c.cm H (.ref a) d F → (∀ b ∈ F, c.B b ∧ ∀ j, b ∉ own j) → kf d = some ds → (∀ J, ItOk c H own J ds → R J H) → wi σ H R)
    (hkf : ∀ d ds, kf d = some ds → (∃ ks vs, d = .dK ks vs) ∨ ∃ ks vs, d = .dT ks vs)
    (hg : ∀ lk H0, DG X (c.lkd lk H0) tg h ts) (hb : ∀ lk H0, DSs X (c.lkd lk H0) body g) (hs : ∀ x, foldedSetIterable iter X.env x = pure x) : DS X c (.For tg iter body [] pos) (sForK kf i h g) := by
  refine ⟨fun pins s σ H Dn I ⟨ρ, own, gd, o⟩ => ?_⟩
  unfold sForK at o
  cases hρ : ρ[i]? with
  | none => simp only [curD, hρ, R.bind_no] at o; exact False.elim o
  | some d =>
    cases d with
    | none => simp only [curD, hρ, R.bind_no] at o; exact False.elim o
    | some d =>
      simp only [curD, hρ, R.bind_ok] at o
      cases hd : kf d with
      | none => simp only [hd, ofO] at o; exact False.elim o
      | some ds =>
        simp only [hd, ofO] at o
        obtain ⟨v, F, hσ, r, so⟩ := gd.slot i d hρ
        unfold SOk at so
        rw [hk] at so
        have so : ∀ b ∈ F, c.B b ∧ ∀ j, b ∉ own j := so
        have go : ∀ {a : Addr} {u : HO} {G : List Addr}, v = .ref a → F = a :: G → isDict u = true → Dk c.cm H a u → wpAny (model X.prog X.w) X.A (exec (.For tg iter body [] pos) X.env) (SP X pins Dn) X.xe s := fun {a u G} ev eF hu hdk => by
          subst ev eF
          have no : ∀ j, a ∉ own j := (so a List.mem_cons_self).2
          rcases hdk with ha | ⟨hl, od, ha⟩
          · have P : PS X (.For tg iter body [] pos) (fun D σ H => ∃ od, L2.tFor wi (rdG (c.lkd (lkOf c.cm.lk a) (lkH0 c.H0 a od u)) h ts) (rdS (c.lkd (lkOf c.cm.lk a) (lkH0 c.H0 a od u)) g) D σ H) :=
              ⟨fun pins s σ H D I ⟨od, z⟩ => (ps_for hp hc hi (hg _ _) (hb _ _) hs).run pins s σ H D I z⟩
            refine (ps_lock P).run pins s σ H Dn I ⟨a, u, ha, (by cases u <;> first | trivial | cases hu), fun od => ⟨od, ?_⟩⟩
            have gl := gd.lock (od := od) ha hu no
            have o' := o.lock (od := od) gd ha hu no
            refine hw (c.lkd (lkOf c.cm.lk a) (lkH0 c.H0 a od u)) σ _ ρ own a od u d ds _ _ hk gl hσ upd_same no (lock_rp ha hu r) (fun b hb => ⟨lkd_B.mpr (so b hb).1, (so b hb).2⟩) hd fun J it => ?_
            exact for_core gl it o'
          · refine (ps_for hp hc hi (hg c.cm.lk c.H0) (hb c.cm.lk c.H0) hs).run pins s σ H Dn I ?_
            refine hw (c.lkd c.cm.lk c.H0) σ _ ρ own a od u d ds _ _ hk gd.lkd0 hσ ha no r so hd fun J it => ?_
            exact for_core gd.lkd0 it o.lkd0
        rcases hkf d ds hd with ⟨ks, vs, rfl⟩ | ⟨ks, vs, rfl⟩
        · cases r with
          | dK e1 e2 rr => exact go rfl rfl rfl e1
        · cases r with
          | dT e1 e2 rr => exact go rfl rfl rfl e1
theorem keys_w (hN : X.N[i]? = some x) (c : Cfg) (σ : L2.St) (H : Hp) (ρ : Env) (own : Ow) (a : Addr) (o : Obj) (u : HO) (d : D) (ds : List D) (F : List Addr) (R : It → Hp → Prop) (hk : c.kd i = .z) (g : Gd c σ H ρ own) (hσ : σ[i]? = some (some (.ref a))) (ha : H a = some (.frz o u)) (no : ∀ j, a ∉ own j) (r : Rp c.cm H (.ref a) d F) (hF : ∀ b ∈ F, c.B b ∧ ∀ j, b ∉ own j) (hd : keysD d = some ds) (k : ∀ J, ItOk c H own J ds → R J H) : iKeys (tVar i) σ H R := by
  refine ⟨_, hσ, a, o, rfl, ?_⟩
  unfold keysD at hd
  split at hd
  · cases hd
    cases r with
    | @dK _ kvs _ _ _ e1 e2 rr =>
      subst e2
      have e : H a = some (.frz o (.dK kvs)) := by
        rcases e1 with e1 | ⟨_, o2, e1⟩
        · rw [ha] at e1; cases e1
        · rw [ha] at e1; cases e1; exact ha
      exact .inl ⟨kvs, e, k _ (itk_ok e no)⟩
  · cases hd
    cases r with
    | @dT _ kvs _ _ _ e1 e2 rr =>
      subst e2
      have e : H a = some (.frz o (.dT kvs)) := by
        rcases e1 with e1 | ⟨_, o2, e1⟩
        · rw [ha] at e1; cases e1
        · rw [ha] at e1; cases e1; exact ha
      exact .inr ⟨kvs, e, k _ (itkt_ok e no)⟩
  · cases hd
/-- for x in d -/
theorem ds_forK {p' : Pos} (hk : c.kd i = .z) (hN : X.N[i]? = some x) (hv : Vis X.env.scope x) (hdb : (x == ("__debug__" : Str)) = false) (hcd : (x == ("__classdict__" : Str)) = false) (hp : PassesOwn (model X.prog X.w) X.A X.env X.xe) (hc : X.calm = true)
    (hg : ∀ lk H0, DG X (c.lkd lk H0) tg h ts) (hb : ∀ lk H0, DSs X (c.lkd lk H0) body g) (hs : ∀ y, foldedSetIterable (.Name x p') X.env y = pure y) : DS X c (.For tg (.Name x p') body [] pos) (sForK keysD i h g) :=
  ds_forW hk hp hc (pi_keys (pe_var hN hv hdb hcd)) (keys_w hN) (fun d ds e => by
    unfold keysD at e
    split at e
    · exact .inl ⟨_, _, rfl⟩
    · exact .inr ⟨_, _, rfl⟩
    · cases e) hg hb hs
theorem items_w (hN : X.N[i]? = some x) (c : Cfg) (σ : L2.St) (H : Hp) (ρ : Env) (own : Ow) (a : Addr) (o : Obj) (u : HO) (d : D) (ds : List D) (F : List Addr) (R : It → Hp → Prop) (hk : c.kd i = .z) (g : Gd c σ H ρ own) (hσ : σ[i]? = some (some (.ref a))) (ha : H a = some (.frz o u)) (no : ∀ j, a ∉ own j) (r : Rp c.cm H (.ref a) d F) (hF : ∀ b ∈ F, c.B b ∧ ∀ j, b ∉ own j) (hd : itemsD d = some ds) (k : ∀ J, ItOk c H own J ds → R J H) : iItems (tVar i) σ H R := by
  unfold itemsD at hd
  split at hd
  · cases hd
    cases r with
    | @dK _ kvs _ _ _ e1 e2 rr =>
      subst e2
      have e : H a = some (.frz o (.dK kvs)) := by
        rcases e1 with e1 | ⟨_, o2, e1⟩
        · rw [ha] at e1; cases e1
        · rw [ha] at e1; cases e1; exact ha
      exact ⟨_, hσ, a, o, kvs, rfl, e, k _ (iti_ok g e no rr fun b hb => hF b (List.mem_cons_of_mem _ hb))⟩
  · cases hd
/-- for k, v in d.items() -/
theorem ds_forI {p' apos cpos tpos : Pos} {elts : List Expr} {kk : Nat} (hk : c.kd i = .z) (hN : X.N[i]? = some x) (hv : Vis X.env.scope x) (hdb : (x == ("__debug__" : Str)) = false) (hcd : (x == ("__classdict__" : Str)) = false) (hp : PassesOwn (model X.prog X.w) X.A X.env X.xe) (hc : X.calm = true)
    (hg : ∀ lk H0, DG X (c.lkd lk H0) (.Tuple elts kk tpos) h ts) (hb : ∀ lk H0, DSs X (c.lkd lk H0) body g) (hs : ∀ y, foldedSetIterable (.Call (.Attribute (.Name x p') "items" apos) [] [] cpos) X.env y = pure y)
    (hbase : attributeBase (.Name x p') "items" X.env (eval (.Name x p') X.env) = eval (.Name x p') X.env := by rfl) (hline : (apos.endLine == cpos.line) = true := by rfl) : DS X c (.For (.Tuple elts kk tpos) (.Call (.Attribute (.Name x p') "items" apos) [] [] cpos) body [] pos) (sForK itemsD i h g) :=
  ds_forW hk hp hc (pi_items (pe_var hN hv hdb hcd) hbase hline) (items_w hN) (fun d ds e => by
    unfold itemsD at e
    split at e
    · exact .inl ⟨_, _, rfl⟩
    · cases e) hg hb hs
/-! ### [.. for k in d] -/
def fLcK (kf : D → Option (List D)) (i : Nat) (tg : D → Env → Option Env) (ft : Env → R Bool) (fe : Env → R D) (vs : List Nat) : Env → R D := fun ρ => match (curD i ρ).bind fun d => ofO (kf d) with
  | .ok ds => if ds.length ≤ SZ then (match lcGo tg ft fe (wipeE ρ vs) ds with
    | .ok ys => .ok (.lst ys)
    | _ => .no) else .no
  | _ => .no
theorem lc_coreG {P : VK} {vs : List Nat} {ds all : List D} {J : It} (hqe : Qz q) (hts : ∀ t ∈ ts, t ∈ vs) (g1 : Gd c σ H1 ρ own) (it : ItOk c H1 own J ds) (hl : ds.length ≤ SZ) (hgo : lcGo h ft fe (wipeE ρ vs) ds = .ok all)
    (o1 : ∀ v H' F, Same H1 H' → Rp c.cm H' v (.lst all) F → QOk c q H1 own F → P v H') :
    ∀ D, H1 D = none → ∃ W : Nat → Nat → Hp → Prop, (∃ m, W 0 m (upd H1 D (.lst []))) ∧ ∀ i m H, W i m H →
      (J.stop i H ∧ P (.ref D) H) ∨ (J.go i H ∧ ∃ Nx : Hp → Prop, (∀ H', Nx H' → ∃ m', m' < m ∧ W (i + 1) m' H') ∧ ∀ x H', J.yld i H x H' → rdG c.nox h ts x (wipe σ vs) H' fun σ2 H2 => wipe σ2 vs = wipe σ vs ∧ rdT c.nox ft σ2 H2 fun b H3 =>
        if b = true then rd c.nox q fe σ2 H3 fun y H4 => ∃ acc, H4 D = some (.lst acc) ∧ acc.length < sizeLine ∧ Nx (upd H4 D (.lst (acc ++ [y]))) else Nx H3) := by
  intro D hD
  have hnd : ∀ {b : Addr} {o : HO}, H1 b = some o → b ≠ D := fun e => ne_of_none e hD
  have smD : Same H1 (upd H1 D (.lst [])) := upd_newSame hD
  refine ⟨fun i m Hh => m = ds.length - i ∧ i ≤ ds.length ∧ Same H1 Hh ∧ ∃ acc ys F rest, Hh D = some (.lst acc) ∧ Rps c.cm Hh acc ys F ∧ D ∉ F ∧ QOk c q H1 own F ∧ lcGo h ft fe (wipeE ρ vs) (ds.drop i) = .ok rest ∧ all = ys ++ rest ∧ acc.length ≤ i,
    ⟨ds.length, by simp, Nat.zero_le _, smD, [], [], [], all, upd_same, .nil, (fun z => nomatch z), .nil, hgo, rfl, Nat.le_refl _⟩, ?_⟩
  rintro i m Hh ⟨rfl, hi, sh, acc, ys, F, rest, hHD, rr, hDF, kq, hrest, hall, hacc⟩
  obtain ⟨own2, gh, x, _, ⟨N, hDN⟩, hsub⟩ := g1.tmp sh hD hHD rfl
  by_cases hlt : i < ds.length
  · refine .inr ⟨it.go i Hh own2 _ x gh.ownM (List.getElem?_eq_getElem hlt), fun H' => i + 1 ≤ ds.length ∧ Same H1 H' ∧ ∃ acc ys F rest, H' D = some (.lst acc) ∧ Rps c.cm H' acc ys F ∧ D ∉ F ∧ QOk c q H1 own F ∧ lcGo h ft fe (wipeE ρ vs) (ds.drop (i + 1)) = .ok rest ∧ all = ys ++ rest ∧ acc.length ≤ i + 1,
      fun H' ⟨a1, a2⟩ => ⟨ds.length - (i + 1), by omega, rfl, a1, a2⟩, fun y H2 hy => ?_⟩
    obtain ⟨s2, Fy, ry, zy⟩ := it.yld i Hh own2 _ y H2 x gh.ownM (List.getElem?_eq_getElem hlt) hy
    rw [List.drop_eq_getElem_cons hlt] at hrest
    unfold lcGo at hrest
    cases htg : h ds[i] (wipeE ρ vs) with
    | none => simp only [htg] at hrest; cases hrest
    | some ρ1 =>
      simp only [htg] at hrest
      refine ⟨wipeE ρ vs, own2, ds[i], Fy, ((gh.same s2).wipe vs).nox, ry, zy, ρ1, htg, fun σ2 g2 w2 => ⟨(w2 vs hts).trans (wipe_wipe σ vs), ρ1, own2, g2, ?_⟩⟩
      cases hft : ft ρ1 with
      | no => simp only [hft] at hrest; cases hrest
      | exc x => simp only [hft] at hrest; cases hrest
      | ok b =>
        simp only [hft] at hrest
        rintro b' H3 F3 s3 ⟨rfl, rfl⟩ _
        cases b' with
        | false =>
          rw [if_neg Bool.false_ne_true]
          exact ⟨hlt, (sh.trans s2).trans s3, acc, ys, F, rest, s3 _ _ (s2 _ _ hHD), (rr.same s2).same s3, hDF, kq, hrest, hall, Nat.le_succ_of_le hacc⟩
        | true =>
          rw [if_pos rfl]
          refine ⟨ρ1, own2, g2.same s3, ?_⟩
          cases hfe : fe ρ1 with
          | no => simp only [hfe] at hrest; cases hrest
          | exc x => simp only [hfe] at hrest; cases hrest
          | ok yd =>
            simp only [hfe] at hrest
            intro v H4 F4 s4 r4 k4
            cases hlc : lcGo h ft fe (wipeE ρ vs) (ds.drop (i + 1)) with
            | no => simp only [hlc] at hrest; cases hrest
            | exc x => simp only [hlc] at hrest; cases hrest
            | ok zs =>
              simp only [hlc] at hrest
              cases hrest
              have s24 := (s2.trans s3).trans s4
              have kDF : D ∉ F4 := fun hz => by
                have hD3 : H3 D ≠ none := by rw [s3 _ _ (s2 _ _ hHD)]; exact Option.some_ne_none _
                revert k4
                cases hqe with
                | z => exact fun k4 => (k4 D hz).2 N hDN
                | n => exact fun k4 => (k4.2 D hz).elim (fun z => hD3 z) fun ⟨_, z, _⟩ => nomatch z
              have k4' : QOk c q H3 own F4 := by
                revert k4
                cases hqe with
                | z => exact fun k4 a ha => ⟨(k4 a ha).1, hsub a (k4 a ha).2⟩
                | n => exact fun k4 => ⟨k4.1, fun a ha => (k4.2 a ha).imp id fun ⟨_, z, _⟩ => nomatch z⟩
              refine ⟨acc, s24 _ _ hHD, Nat.lt_of_le_of_lt hacc (Nat.lt_of_lt_of_le hlt (Nat.le_trans hl SZ_le)), hlt, ?_, acc ++ [v], ys ++ [yd], F ++ F4, zs, upd_same, ?_, ?_, ?_, by first | exact hlc | rfl, by simp [hall], by simp; omega⟩
              · exact fun b ob e => by
                  rw [upd_ne (hnd e)]
                  exact s24 _ _ (sh b ob e)
              · have q1 := (rr.same s24).append (.one r4)
                refine q1.mono fun b ob e z => ?_
                have hbD : b ≠ D := by
                  rintro rfl
                  rcases z with z | z
                  · exact (List.mem_append.mp z).elim hDF kDF
                  · rw [s24 _ _ hHD] at e; cases e; cases z
                rw [upd_ne hbD]; exact e
              · exact fun z => (List.mem_append.mp z).elim hDF kDF
              · exact kq.join hqe.j g1 (sh.trans (s2.trans s3)) (fun a ha => by have := rr.trk a ha; exact Same.dom (s2.trans s3) a this) k4'
  · have hie : i = ds.length := by omega
    subst hie
    refine .inl ⟨it.stop _ Hh own2 x gh.ownM (Nat.le_refl _), ?_⟩
    rw [List.drop_length] at hrest
    cases hrest
    rw [List.append_nil] at hall
    subst hall
    refine o1 (.ref D) Hh (D :: F) sh (.lst hHD rr) ?_
    have dd : Der H1 F (D :: F) := .cons hD (List.Sublist.refl _)
    cases q with
    | b => exact fun a ha => (List.mem_cons.mp ha).elim (fun e => by subst e; exact g1.newB hD) (kq a)
    | z => exact fun a ha => (List.mem_cons.mp ha).elim (fun e => by subst e; exact ⟨g1.newB hD, g1.newOwn hD⟩) (kq a)
    | n S => exact ⟨List.nodup_cons.mpr ⟨hDF, kq.1⟩, fun a ha => (List.mem_cons.mp ha).elim (fun e => by subst e; exact .inl hD) fun z => kq.2 a z⟩
theorem QOk_lkd {a : Addr} {od : Obj} {u : HO} {lk : Addr → Prop} {F : List Addr} (ha : H a ≠ none) (k : QOk (c.lkd lk (lkH0 c.H0 a od u)) q (upd H a (.frz od u)) own F) : QOk c q H own F := by
  cases q with
  | b => exact fun b hb => lkd_B.mp (k b hb)
  | z => exact fun b hb => ⟨lkd_B.mp (k b hb).1, (k b hb).2⟩
  | n S => exact ⟨k.1, fun b hb => (k.2 b hb).imp (fun z => by
      by_cases e : b = a
      · subst e; rw [upd_same] at z; cases z
      · rwa [upd_ne e] at z) id⟩
theorem QOk_lkd0 {F : List Addr} (k : QOk (c.lkd c.cm.lk c.H0) q H own F) : QOk c q H own F := by
  cases q <;> exact k
theorem de_lcW {kf : D → Option (List D)} {wi : TI} {elt : Expr} {ifs : List Expr} {scope : Scope} {ownn : List (Str × Nat)} (hk : c.kd i = .z) (hc : X.calm = true) (hN : X.N.Nodup) (hqz : Qz q) (hi : PI X tg iter wi)
    (hw : ∀ (c : Cfg) (σ : L2.St) (H : Hp) (ρ : Env) (own : Ow) (a : Addr) (o : Obj) (u : HO) (d : D) (ds : List D) (F : List Addr) (R : It → Hp → Prop), c.kd i = .z → Gd c σ H ρ own → σ[i]? = some (some (.ref a)) → H a = some (.frz o u) → (∀ j, a ∉ own j) → Rp c.cm H (.ref a) d F → (∀ b ∈ F, c.B b ∧ ∀ j, b ∉ own j) → kf d = some ds → (∀ J, ItOk c H own J ds → R J H) → wi σ H R)
    (hkf : ∀ d ds, kf d = some ds → (∃ ks vs, d = .dK ks vs) ∨ ∃ ks vs, d = .dT ks vs)
    (ok : BlkOk X.N X.env.scope scope ownn)
    (hg : ∀ lk H0 (s : Shared) (H : Hp) (C : Addr) (cl : List (Str × Addr)) (fp : List Addr), DG (X.blk s H scope (compEnvC scope cl C X.env) fp) (c.lkd lk H0).nox tg h ts)
    (ht : ∀ lk H0 (s : Shared) (H : Hp) (C : Addr) (cl : List (Str × Addr)) (fp : List Addr), DTs (X.blk s H scope (compEnvC scope cl C X.env) fp) (c.lkd lk H0).nox ifs ft)
    (he : ∀ lk H0 (s : Shared) (H : Hp) (C : Addr) (cl : List (Str × Addr)) (fp : List Addr), DE (X.blk s H scope (compEnvC scope cl C X.env) fp) (c.lkd lk H0).nox q elt fe)
    (hs : ∀ x, foldedSetIterable iter X.env x = pure x) (hts : ∀ t ∈ ts, t ∈ ownn.map (·.2)) :
    DE X c q (.ListComp elt [⟨tg, iter, ifs, 0⟩] scope pos) (fLcK kf i h ft fe (ownn.map (·.2))) := by
  refine ⟨fun pins s σ H P I ⟨ρ, own, gd, o⟩ => ?_⟩
  unfold fLcK at o
  cases hρ : ρ[i]? with
  | none => simp only [curD, hρ, R.bind_no] at o; exact False.elim o
  | some d =>
    cases d with
    | none => simp only [curD, hρ, R.bind_no] at o; exact False.elim o
    | some d =>
      simp only [curD, hρ, R.bind_ok] at o
      cases hd : kf d with
      | none => simp only [hd, ofO] at o; exact False.elim o
      | some ds =>
        simp only [hd, ofO] at o
        by_cases hl : ds.length ≤ SZ
        · rw [if_pos hl] at o
          cases hgo : lcGo h ft fe (wipeE ρ (ownn.map (·.2))) ds with
          | no => rw [hgo] at o; exact False.elim o
          | exc y => rw [hgo] at o; exact False.elim o
          | ok all =>
            rw [hgo] at o
            obtain ⟨v, F, hσ, r, so⟩ := gd.slot i d hρ
            unfold SOk at so
            rw [hk] at so
            have so : ∀ b ∈ F, c.B b ∧ ∀ j, b ∉ own j := so
            have go : ∀ {a : Addr} {u : HO} {G : List Addr}, v = .ref a → F = a :: G → isDict u = true → Dk c.cm H a u → wpAny (model X.prog X.w) X.A (eval (.ListComp elt [⟨tg, iter, ifs, 0⟩] scope pos) X.env) (EP X pins σ P) X.xe s := fun {a u G} ev eF hu hdk => by
              subst ev eF
              have no : ∀ j, a ∉ own j := (so a List.mem_cons_self).2
              rcases hdk with ha | ⟨hlk, od, ha⟩
              · have P1 : PE X (.ListComp elt [⟨tg, iter, ifs, 0⟩] scope pos) (fun σ H Q => ∃ od, tLc wi (rdG (c.lkd (lkOf c.cm.lk a) (lkH0 c.H0 a od u)).nox h ts) (rdT (c.lkd (lkOf c.cm.lk a) (lkH0 c.H0 a od u)).nox ft) (rd (c.lkd (lkOf c.cm.lk a) (lkH0 c.H0 a od u)).nox q fe) (ownn.map (·.2)) σ H Q) :=
                  ⟨fun pins s σ H D I ⟨od, z⟩ => (pe_lc hc hN hi ok (hg _ _) (ht _ _) (he _ _) hs).run pins s σ H D I z⟩
                refine (pe_lock P1).run pins s σ H P I ⟨a, u, ha, (by cases u <;> first | trivial | cases hu), fun od => ⟨od, ?_⟩⟩
                have gl := gd.lock (od := od) ha hu no
                refine hw (c.lkd (lkOf c.cm.lk a) (lkH0 c.H0 a od u)) σ _ ρ own a od u d ds _ _ hk gl hσ upd_same no (lock_rp ha hu r) (fun b hb => ⟨lkd_B.mpr (so b hb).1, (so b hb).2⟩) hd fun J it => ?_
                refine lc_coreG (P := fun v H' => H' a = some (.frz od u) ∧ P v (upd H' a u)) hqz hts gl it hl hgo fun v' H' F' s' r' k' => ?_
                have fz : H' a = some (.frz od u) := s' _ _ upd_same
                refine ⟨fz, o v' _ F' (fun b ob hb => ?_) (unlock_rp fz hu r') (QOk_lkd (by rw [ha]; exact Option.some_ne_none _) k')⟩
                by_cases e : b = a
                · subst e; rw [upd_same, ← ha]; exact hb
                · rw [upd_ne e]; exact s' _ _ (by rw [upd_ne e]; exact hb)
              · refine (pe_lc hc hN hi ok (hg c.cm.lk c.H0) (ht c.cm.lk c.H0) (he c.cm.lk c.H0) hs).run pins s σ H P I ?_
                refine hw (c.lkd c.cm.lk c.H0) σ _ ρ own a od u d ds _ _ hk gd.lkd0 hσ ha no r so hd fun J it => ?_
                exact lc_coreG (P := P) hqz hts gd.lkd0 it hl hgo fun v' H' F' s' r' k' => o v' H' F' s' r' (QOk_lkd0 k')
            rcases hkf d ds hd with ⟨ks, vs, rfl⟩ | ⟨ks, vs, rfl⟩
            · cases r with
              | dK e1 e2 rr => exact go rfl rfl rfl e1
            · cases r with
              | dT e1 e2 rr => exact go rfl rfl rfl e1
        · rw [if_neg hl] at o
          exact False.elim o
end
end Pd
set_option Elab.async false
set_option linter.all false
set_option maxRecDepth 100000
set_option maxHeartbeats 4000000
namespace Pd
open PySem PySem.Spec PySem.Calls PyProof.Rows L2
/-! ### list(reversed(a list)) -/
section
variable {prog : Program} {w : World} {A : Around} {E : Value → Shared → Prop} {s : Shared}
theorem code_list_init_rev {it l S : Addr} {items : Array Value} {R : Result → Shared → Prop} (hh : A.handled = none) (hit : s.heap.IsRevIter it l ((items.size : Int) - 1)) (hl : s.heap.IsList l items) (hne : l ≠ it) (hn : items.size ≤ sizeLine)
    (hS : s.heap.get? S = some { cls := .type "list", data := .seq #[] }) (hSi : S ≠ it) (hSl : S ≠ l)
    (hR : ∀ h' tk acc' c', (∀ b o, b ≠ S → b ≠ it → s.heap.get? b = some o → h'.get? b = some o) → h'.get? S = some { cls := .type "list", dict := none, data := .seq acc' c', slots := #[] } → ItemsOf (fun i v => items[items.size - 1 - i]? = some v) acc' items.size → R (.ok (.ret .none)) { s with heap := h', toks := tk }) :
    wpAny (model prog w) A.in1 (Builtin.«list.__init__» ⟨[.ref S, .ref it], []⟩)
      (fun fin s' => match fin with | .done f => R (.ok f) s' | .again c' => c'.quiet = true ∧ codeAny (model prog w) A c' R s') (fun e s' => R (.error e) s') s := by
  have W := (Walks.listRev (prog := prog) (w := w) (A := A.in1) hh it l hne items).toS
  have hSf : S ∉ [it, l] := by simp only [List.mem_cons, List.not_mem_nil, or_false, not_or]; exact ⟨hSi, hSl⟩
  show wpAny _ _ (do let old ← Builtin.List.listItems (.ref S); Builtin.List.listUpdate (.ref S) (fun _ => #[]); letGo old.toList.reverse; Builtin.List.listExtendWith (.ref S) (.ref it) .none) _ _ s
  refine wpAny_bind ?_
  unfold Builtin.List.listItems
  refine wpAny_bind (wpAny_seqItems hS rfl (wpAny_pure ?_))
  show wpAny _ _ (updateSeq S (fun _ => #[]) >>= fun _ => letGo (#[] : Array Value).toList.reverse >>= fun _ => Builtin.List.listExtendWith (.ref S) (.ref it) .none) _ _ s
  refine wpAny_bind (wpAny_updateSeq hS rfl ?_)
  have hS₁ := Heap.get?_update_self (Obj.mapSeq (fun _ => (#[] : Array Value))) hS rfl
  have oth : ∀ b o, b ≠ S → s.heap.get? b = some o → (s.heap.update S (Obj.mapSeq (fun _ => (#[] : Array Value)))).get? b = some o :=
    fun b o hb e => (Heap.get?_update_other _ _ (Ne.symm hb)).trans e
  refine wpAny_bind (wpAny_letGo ?_)
  have hit1 : (s.heap.update S (Obj.mapSeq (fun _ => (#[] : Array Value)))).IsRevIter it l ((items.size : Int) - 1) := hit.at fun o e => oth it o hSi.symm e
  have hl1 : (s.heap.update S (Obj.mapSeq (fun _ => (#[] : Array Value)))).IsList l items := by
    obtain ⟨o, e, r⟩ := hl
    exact ⟨o, oth l o hSl.symm e, r⟩
  have hT : ({ s with heap := s.heap.update S (Obj.mapSeq (fun _ => (#[] : Array Value))) } : Shared).TypeIs (.ref it) "list_reverseiterator" := Heap.IsRevIter.typeIs (s := { s with heap := s.heap.update S (Obj.mapSeq (fun _ => (#[] : Array Value))) }) hit1
  have h1 : Builtin.List.listSameRef (.ref S) (.ref it) = false := by simp [Builtin.List.listSameRef, hSi]
  unfold Builtin.List.listExtendWith
  refine wpAny_bind (wpAny_typeOf hT ?_)
  rw [if_neg (by rw [h1]; decide)]
  refine wpAny_bind (wpAny_pyIter_revIter (s := { s with heap := s.heap.update S (Obj.mapSeq (fun _ => (#[] : Array Value))) }) hit1 ?_)
  refine wpAny_bind (wpAny_holding ?_)
  unfold Builtin.List.listLengthHint
  refine wpAny_bind (wpAny_specialOf hT RT.nolen_lri ?_)
  show wpAny _ A.in1 (specialOf (Value.ref it) (Str.ofString "__length_hint__") >>= _) _ _ _
  refine wpAny_bind (wpAny_specialOf hT RT.hint_lri ?_)
  generalize hid : ("list_reverseiterator.__length_hint__" : String) = id0
  wp_delta
  rw [show splitId id0 = some ("list_reverseiterator", "__length_hint__") from by subst hid; decide +kernel]
  subst hid
  refine wpAny_bind (wpAny_isInstance (b := true) hT (by rw [isSubtype_type]; kernel_rfl) ?_)
  refine wpAny_pure ?_
  rw [if_neg (by decide)]
  have e0 : ((items.size : Nat) : Int) - 1 - ((0 : Nat) : Int) = (items.size : Int) - 1 := by omega
  refine wpAny_pure ⟨plainId_quiet PySem.F.plain_extend_loop _, codeAny_extend_loopS W hn _ hSf _ items.size 0 _ _ _ rfl (Nat.zero_le _) ⟨Nat.zero_le _, by rw [e0]; exact hit1, hl1⟩ hS₁ (ItemsOf.nil _) fun s' acc' c' hm hS' hacc => ?_⟩
  rw [Moved.eq_with hm]
  refine hR s'.heap s'.toks acc' c' (fun b o hb hb2 e => hm.heap b o (fun hmem => ?_) (oth b o hb e)) hS' hacc
  rcases List.mem_cons.mp hmem with e' | hmem
  · exact hb e'
  · exact hb2 (List.mem_singleton.mp hmem)
theorem call_list_revIter {it l : Addr} {items : Array Value} {Q : Value → Shared → Prop} (hh : A.handled = none) (hit : s.heap.IsRevIter it l ((items.size : Int) - 1)) (hl : s.heap.IsList l items) (hne : l ≠ it) (hn : items.size ≤ sizeLine)
    (hQ : ∀ h' tk acc' c', (∀ b o, b ≠ it → s.heap.get? b = some o → h'.get? b = some o) → h'.get? s.heap.objs.size = some { cls := .type "list", dict := none, data := .seq acc' c', slots := #[] } → ItemsOf (fun i v => items[items.size - 1 - i]? = some v) acc' items.size → Q (.ref s.heap.objs.size) { s with heap := h', toks := tk }) :
    wpAny (model prog w) A (call (.type "list") [.ref it]) Q E s := by
  refine callType_codes (Q₁ := fun obj s₁ => obj = .ref s.heap.objs.size ∧ s₁ = { s with heap := s.heap.push { cls := .type "list", data := .seq #[] } }) PySem.F.called_list (PySem.F.typeCall_list_1 _) PySem.F.entry_list_init
    (code_list_new _ ⟨rfl, rfl⟩) fun obj s₁ h₁ => ?_
  obtain ⟨rfl, rfl⟩ := h₁
  have hS : (s.heap.push { cls := .type "list", data := .seq #[] }).get? s.heap.objs.size = some { cls := .type "list", data := .seq #[] } := Heap.get?_push_size _ rfl
  obtain ⟨oi, hoi, _⟩ := id hit
  obtain ⟨ol, hol, _⟩ := id hl
  have hSi : s.heap.objs.size ≠ it := Nat.ne_of_gt (Heap.lt_size hoi)
  have hSl : s.heap.objs.size ≠ l := Nat.ne_of_gt (Heap.lt_size hol)
  refine ⟨⟨_, hS, rfl⟩, PySem.F.args_list_init_2 _ _, code_list_init_rev (s := { s with heap := s.heap.push { cls := .type "list", data := .seq #[] } }) (A := A.in1) hh (hit.at fun o e => Heap.get?_push_of_some _ e) (hl.push _) hne hn hS hSi hSl fun h' tk acc' c' hk hS' hacc => ?_⟩
  exact ⟨rfl, hQ h' tk acc' c' (fun b o hb e => hk b o (Nat.ne_of_lt (Heap.lt_size e)) hb (Heap.get?_push_of_some _ e)) hS' hacc⟩
end
section
variable {X : Cx} {c : Cfg} {q q1 q2 qa qb : Q} {tg e e2 : Expr} {a b k : Expr} {es : List Expr} {p p2 pos pos2 apos cpos tpos : Pos} {f fa fb fk : Env → R D} {fs : Env → R (List D)} {σ : L2.St} {H H1 : Hp} {ρ : Env} {own : Ow}
def tListRev (K : PySem.W.Frag) (te : TE) : TE := fun σ H Q => te σ H fun v H1 => ∃ (a : Addr) (xs : List V), v = .ref a ∧ SqL K H1 a xs ∧ ∀ q, H1 q = none → Q (.ref q) (upd H1 q (.lst xs.reverse))
theorem pe_listRev {e : Expr} {te : TE} {p p2 pos pos2 : Pos} (hc : X.calm = true) (hg : Gl X "list") (hm : X.mg "list" = none) (hg2 : Gl X "reversed") (hm2 : X.mg "reversed" = none) (he : PE X e te)
    (hs : starEach [e] X.env = (false, eval e X.env) :: starEach [] X.env := by rfl)
    (hs2 : starEach [.Call (.Name "reversed" p2) [e] [] pos2] X.env = (false, eval (.Call (.Name "reversed" p2) [e] [] pos2) X.env) :: starEach [] X.env := by rfl) :
    PE X (.Call (.Name "list" p) [.Call (.Name "reversed" p2) [e] [] pos2] [] pos) (tListRev X.K te) := by
  refine ⟨fun pins s σ H Q I h => ?_⟩
  refine Call_ (ld_blt I hg hm boot_list (PyProof.Rows.callWith_type1 (args_cons (Call_ (ld_blt I hg2 hm2 PyProof.Rows.boot_reversed (PyProof.Rows.callWith_type1 (args_cons (thn (he.run pins s σ H _ I h) fun u s1 ⟨v, H1, I1, r1, q1⟩ => args_nil ?_) hs) hs rfl))) hs2) hs2 rfl))
  obtain ⟨a, xs, ev, hq, q⟩ := q1
  subst ev
  obtain rfl : u = Value.ref a := r1
  obtain ⟨its, rv, p', hz⟩ := I1.list hq
  refine call_reversed_list p'.isList (args_nil ?_)
  have k0 : ∀ b o, s1.heap.get? b = some o → (s1.heap.push (revObj a ((its.toArray.size : Int) - 1))).get? b = some o := fun b o e => Heap.get?_push_of_some _ e
  have I2 : Inv X pins σ H1 { s1 with heap := s1.heap.push (revObj a ((its.toArray.size : Int) - 1)) } := I1.kept (t' := s1.toks) k0
  have hl := p'.isList
  obtain ⟨ol, hol, _⟩ := id hl
  have hne : a ≠ s1.heap.objs.size := Nat.ne_of_lt (Heap.lt_size hol)
  have hn : its.toArray.size ≤ sizeLine := by rw [List.size_toArray, ← rv.length]; exact hz
  refine call_list_revIter (s := { s1 with heap := s1.heap.push (revObj a ((its.toArray.size : Int) - 1)) }) (I1.ok.hd hc) ⟨_, Heap.get?_push_size _ rfl, rfl, rfl⟩ (hl.push _) hne hn fun h' tk acc cc hk hS hi => ?_
  have keep : ∀ b o, s1.heap.get? b = some o → h'.get? b = some o := fun b o e => hk b o (Nat.ne_of_lt (Heap.lt_size e)) (k0 b o e)
  have hfr : H1 (s1.heap.push (revObj a ((its.toArray.size : Int) - 1))).objs.size = none := I2.hok.fresh (Nat.le_refl _)
  refine ⟨.ref _, upd H1 (s1.heap.push (revObj a ((its.toArray.size : Int) - 1))).objs.size (.lst xs.reverse), I1.laid (t' := tk) keep (by rw [Heap.size_push]; exact Nat.le_succ _) (show ObjOk X.prog X.w _ _ _ (.lst xs.reverse) from ⟨by rw [List.length_reverse]; exact hz, acc.toList, cc, RT.vals_rev rv hi, ?_⟩), rfl, q _ hfr⟩
  rw [Array.toArray_toList]
  exact hS
theorem de_listRev (hc : X.calm = true) (hg : Gl X "list") (hm : X.mg "list" = none) (hg2 : Gl X "reversed") (hm2 : X.mg "reversed" = none) (ha : DE X c q e f)
    (hs : starEach [e] X.env = (false, eval e X.env) :: starEach [] X.env := by rfl)
    (hs2 : starEach [.Call (.Name "reversed" p2) [e] [] pos2] X.env = (false, eval (.Call (.Name "reversed" p2) [e] [] pos2) X.env) :: starEach [] X.env := by rfl) (hK : c.cm.K = X.K := by rfl) :
    DE X c q (.Call (.Name "list" p) [.Call (.Name "reversed" p2) [e] [] pos2] [] pos) (f1 revD f) :=
  PE.imp (pe_listRev hc hg hm hg2 hm2 ha hs hs2) fun σ H P ⟨ρ, own, g, o⟩ => ⟨ρ, own, g, outR.bind o fun d v H1 F hd s1 r1 k1 o1 => by
    revert o1
    unfold revD
    cases hi : itm d with
    | none => exact fun o1 => False.elim o1
    | some xs =>
      cases r1 with
      | tup e rr => exact fun o1 => False.elim o1
      | @lst a' vs' ds' F' e rr =>
        cases hi
        obtain ⟨G, h1, h2⟩ := rr.rev
        refine fun o1 => ⟨_, _, rfl, .of e, fun p hp => ?_⟩
        have sm := upd_newSame (o := .lst vs'.reverse) hp
        exact o1 _ _ (p :: G) (s1.trans sm) (.lst upd_same (h1.same sm)) (k1.der g s1 (Rp.trk (.lst e rr)) (.consPerm hp h2 (List.sublist_cons_self _ _)))
      | @frz a' vs' ds' F' e rr =>
        cases hi
        obtain ⟨G, h1, h2⟩ := rr.rev
        refine fun o1 => ⟨_, _, rfl, by rw [← hK]; exact e.sq, fun p hp => ?_⟩
        have sm := upd_newSame (o := .lst vs'.reverse) hp
        exact o1 _ _ (p :: G) (s1.trans sm) (.lst upd_same (h1.same sm)) (k1.der g s1 (Rp.trk (.frz e rr)) (.consPerm hp h2 (List.Sublist.refl _)))
      | _ => cases hi⟩
theorem de_listRevN (hc : X.calm = true) (hg : Gl X "list") (hm : X.mg "list" = none) (hg2 : Gl X "reversed") (hm2 : X.mg "reversed" = none) (ha : DE X c q e f)
    (hs : starEach [e] X.env = (false, eval e X.env) :: starEach [] X.env := by rfl)
    (hs2 : starEach [.Call (.Name "reversed" p2) [e] [] pos2] X.env = (false, eval (.Call (.Name "reversed" p2) [e] [] pos2) X.env) :: starEach [] X.env := by rfl) (hK : c.cm.K = X.K := by rfl) :
    DE X c (.n []) (.Call (.Name "list" p) [.Call (.Name "reversed" p2) [e] [] pos2] [] pos) (fFr (f1 revD f)) :=
  PE.imp (pe_listRev hc hg hm hg2 hm2 ha hs hs2) fun σ H P ⟨ρ, own, g, o⟩ => ⟨ρ, own, g, by
    unfold fFr f1 at o
    rw [bind_assoc2] at o
    exact outR.bind o fun d v H1 F hd s1 r1 k1 o1 => by
      revert o1
      unfold revD
      cases hi : itm d with
      | none => exact fun o1 => False.elim o1
      | some xs =>
        cases r1 with
        | tup e rr => exact fun o1 => False.elim o1
        | @lst a' vs' ds' F' e rr =>
          cases hi
          obtain ⟨G, h1, h2⟩ := rr.rev
          intro o1
          obtain ⟨hi, o4⟩ := fr_out o1
          exact ⟨_, _, rfl, .of e, fun pp hp => fr_end g s1 hp h1 hi o4⟩
        | @frz a' vs' ds' F' e rr =>
          cases hi
          obtain ⟨G, h1, h2⟩ := rr.rev
          intro o1
          obtain ⟨hi, o4⟩ := fr_out o1
          exact ⟨_, _, rfl, by rw [← hK]; exact e.sq, fun pp hp => fr_end g s1 hp h1 hi o4⟩
        | _ => cases hi⟩
/-! ### for x in reversed(xs) -/
def fRevI (f : Env → R D) : Env → R (List D) := fun ρ => (f ρ).bind fun d => ofO ((itm d).map List.reverse)
theorem Rps.getR {cm : Md} {H : Hp} {vs : List V} {ds : List D} {F : List Addr} (r : Rps cm H vs ds F) {i : Nat} {d : D} (h : ds.reverse[i]? = some d) : ds[ds.length - 1 - i]? = some d ∧ i < ds.length := by
  have hi : i < ds.length := by
    have := (List.getElem?_eq_some_iff.mp h).1
    simpa using this
  rw [List.getElem?_reverse hi] at h
  exact ⟨h, hi⟩
theorem itv_ok {a : Addr} {vs : List V} {ds : List D} {F : List Addr} {K : PySem.W.Frag} (g : Gd c σ H1 ρ own) (hq : ∀ H own', Ext H1 own H own' → SqL K H a vs) (rr : Rps c.cm H1 vs ds F) (hz : ∀ a ∈ F, c.B a ∧ ∀ j, a ∉ own j) : ItOk c H1 own (Itv K a vs.length) ds.reverse where
  go := fun i H own' d x _ hd => by
    obtain ⟨h1, h2⟩ := rr.getR hd
    obtain ⟨v, G, h3, _, _⟩ := rr.get h1
    rw [← rr.length] at h3 h2
    exact ⟨h2, vs, v, hq _ _ x, h3⟩
  yld := fun i H own' d y H' x _ hd hy => by
    obtain ⟨e, hy⟩ := hy
    subst e
    obtain ⟨h1, h2⟩ := rr.getR hd
    rw [← rr.length] at h1
    exact ⟨Same.refl _, item_ok (a := a) g x rr hz h1 (hy vs (hq _ _ x))⟩
  stop := fun i H own' x _ hi => by
    show vs.length ≤ i
    rw [rr.length]; simpa using hi
theorem itvt_ok {a : Addr} {vs : List V} {ds : List D} {F : List Addr} {K : PySem.W.Frag} (g : Gd c σ H1 ρ own) (hq : ∀ H own', Ext H1 own H own' → SqT K H a vs) (rr : Rps c.cm H1 vs ds F) (hz : ∀ a ∈ F, c.B a ∧ ∀ j, a ∉ own j) : ItOk c H1 own (RT.ItvT K a vs.length) ds.reverse where
  go := fun i H own' d x _ hd => by
    obtain ⟨h1, h2⟩ := rr.getR hd
    obtain ⟨v, G, h3, _, _⟩ := rr.get h1
    rw [← rr.length] at h3 h2
    exact ⟨h2, vs, v, hq _ _ x, h3⟩
  yld := fun i H own' d y H' x _ hd hy => by
    obtain ⟨e, hy⟩ := hy
    subst e
    obtain ⟨h1, h2⟩ := rr.getR hd
    rw [← rr.length] at h1
    exact ⟨Same.refl _, item_ok (a := a) g x rr hz h1 (hy vs (hq _ _ x))⟩
  stop := fun i H own' x _ hi => by
    show vs.length ≤ i
    rw [rr.length]; simpa using hi
theorem irev (hg : Gl X "reversed") (hm : X.mg "reversed" = none) (ha : DE X c .z e f) (hs : starEach [e] X.env = (false, eval e X.env) :: starEach [] X.env := by rfl) (hK : c.cm.K = X.K := by rfl) :
    DI X c tg (.Call (.Name "reversed" p) [e] [] pos) (fRevI f) :=
  PI.imp (RT.pi_revA hg hm ha hs) fun σ H Rr ⟨ρ, own, g, o⟩ => ⟨ρ, own, g, by
    unfold fRevI at o
    cases hf : f ρ with
    | no => rw [hf] at o; exact o
    | exc x => rw [hf] at o; exact o
    | ok d =>
      rw [hf] at o
      intro v H1 F s1 r1 k1
      have o' : match ofO ((itm d).map List.reverse) with
        | .ok ds => ∀ J H1, Same H H1 → ItOk c H1 own J ds → Rr J H1
        | .exc x => ∀ C dd H', ClX c.cm x C dd → Same H H' → c.W (.ref C) dd σ H'
        | .no => False := o
      cases hi : itm d with
      | none => rw [hi] at o'; exact False.elim o'
      | some ds =>
        rw [hi] at o'
        have g1 := g.same s1
        cases r1 with
        | lst e r => cases hi; exact ⟨_, _, rfl, .inl ⟨.of e, o' _ H1 s1 (itv_ok g1 (fun H own' x => sq_ext g1.ownM (k1 _ List.mem_cons_self).2 x (.of e)) r fun a ha => k1 a (List.mem_cons_of_mem _ ha))⟩⟩
        | frz e r => cases hi; rw [hK] at e; exact ⟨_, _, rfl, .inl ⟨e.sq, o' _ H1 s1 (itv_ok g1 (fun H own' x => (fz_ext g1.ownM x e).sq) r k1)⟩⟩
        | tup e r => cases hi; exact ⟨_, _, rfl, .inr ⟨.of e, o' _ H1 s1 (itvt_ok g1 (fun H own' x => st_ext g1.ownM x e) r k1)⟩⟩
        | _ => cases hi⟩
/-! ### {} -/
theorem de_dK : DE X c q (.Dict [] [] pos) (fC (.dK [] [])) := PE.imp pe_dnewK fun σ H P ⟨ρ, own, g, o⟩ p hp => by
  have sm := upd_newSame (o := .dK []) hp
  refine o _ _ [p] sm (.dK (.inl upd_same) rfl .nil) ?_
  exact (QOk.nil : QOk c q H own []).der g (Same.refl H) (fun _ h => nomatch h) (.cons hp (List.Sublist.refl _))
theorem de_dT : DE X c q (.Dict [] [] pos) (fC (.dT [] [])) := PE.imp pe_dnewT fun σ H P ⟨ρ, own, g, o⟩ p hp => by
  have sm := upd_newSame (o := .dT []) hp
  refine o _ _ [p] sm (.dT (.inl upd_same) rfl .nil) ?_
  exact (QOk.nil : QOk c q H own []).der g (Same.refl H) (fun _ h => nomatch h) (.cons hp (List.Sublist.refl _))
/-! ### d.get(k) -/
def getN (d k : D) : Option D := match d, k with
  | .dK ks vs, k => match keyOf k with
    | some kk => some ((lookK kk ks vs).getD .non)
    | none => none
  | .dT ks vs, .tup kd => match keysOf kd with
    | some kk => some ((lookK kk ks vs).getD .non)
    | none => none
  | _, _ => none
theorem getN_ok {cm : Md} {H : Hp} {x y : V} {d e r : D} {F G : List Addr} (r1 : Rp cm H x d F) (r2 : Rp cm H y e G) (h : getN d e = some r) : ∃ p o, x = .ref p ∧ DGet H p y o ∧ ∃ G', Rp cm H (o.getD .non) r G' ∧ G'.Sublist F := by
  unfold getN at h
  split at h
  · split at h
    · rename_i hk
      cases h
      cases r1 with
      | dK e1 e2 rr =>
        subst e2
        rw [r2.key hk]
        refine ⟨_, _, rfl, DGet.kR e1.rd, ?_⟩
        rename_i kk _ kvs _
        cases hl : lookK kk (kvs.map (·.1)) _ with
        | none => rw [rr.noLook _ hl]; exact ⟨[], .non, List.nil_sublist _⟩
        | some d' =>
          obtain ⟨v, G', h1, h2, h3⟩ := rr.look _ hl
          rw [h1]
          exact ⟨G', h2, h3.trans (List.sublist_cons_self _ _)⟩
    · cases h
  · split at h
    · rename_i hk
      cases h
      cases r1 with
      | dT e1 e2 rr =>
        subst e2
        cases r2 with
        | tup e3 r3 =>
          rw [r3.keys hk] at e3
          refine ⟨_, _, rfl, DGet.tR e1.rd e3, ?_⟩
          rename_i kk _ kvs _ _ _
          cases hl : lookK kk (kvs.map (·.1)) _ with
          | none => rw [rr.noLook _ hl]; exact ⟨[], .non, List.nil_sublist _⟩
          | some d' =>
            obtain ⟨v, G', h1, h2, h3⟩ := rr.look _ hl
            rw [h1]
            exact ⟨G', h2, h3.trans (List.sublist_cons_self _ _)⟩
    · cases h
  · cases h
def isDk : D → Bool
  | .dK _ _ => true
  | .dT _ _ => true
  | _ => false
def fGet (fa fk : Env → R D) : Env → R D := fun ρ => (fa ρ).bind fun d => if isDk d = true then (fk ρ).bind fun k => ofO (getN d k) else .no
theorem isDk_at {cm : Md} {H : Hp} {v : V} {d : D} {F : List Addr} (r : Rp cm H v d F) (h : isDk d = true) : ∃ a, v = .ref a ∧ IsD H a := by
  cases r with
  | dK e _ _ => exact ⟨_, rfl, .inl ⟨_, e.rd⟩⟩
  | dT e _ _ => exact ⟨_, rfl, .inr ⟨_, e.rd⟩⟩
  | _ => cases h
theorem de_get (hu : X.A.units + 64 < cLine) (j : Qj q1 q2 q) (ha : DE X c q1 a fa) (hk : DE X c q2 k fk) (m : M1 X a "get" apos k cpos := by exact ⟨rfl, rfl, rfl, rfl⟩) : DE X c q (.Call (.Attribute a "get" apos) [k] [] cpos) (fGet fa fk) :=
  PE.imp (pe_dget1 (by omega) ha hk m) fun σ H P ⟨ρ, own, g, o⟩ => ⟨ρ, own, g, outR.bind o fun d v H1 F hd s1 r1 k1 o1 => by
    by_cases hi : isDk d = true
    · have o2 : outR c q σ H own (Rp c.cm) ((fk ρ).bind fun k => ofO (getN d k)) P := by rw [if_pos hi] at o1; exact o1
      obtain ⟨a', ev, hd'⟩ := isDk_at r1 hi
      refine ⟨a', ev, hd', ρ, own, g.same s1, outR.bind (o2.later s1) fun e u H2 G he s2 r2 k2 o3 => ?_⟩
      rw [he] at o2
      have o2 : outR c q σ H own (Rp c.cm) (ofO (getN d e)) P := o2
      have r1' := r1.same s2
      cases hg : getN d e with
      | none => rw [hg] at o2; exact False.elim o2
      | some r =>
        rw [hg] at o2
        obtain ⟨p, oo, e1, dg, G', rr, sl⟩ := getN_ok r1' r2 hg
        rw [ev] at e1
        cases e1
        exact ⟨oo, dg, o2 _ H2 G' (s1.trans s2) rr ((k1.join j g s1 r1.trk k2).der g (s1.trans s2) (fun a ha => (List.mem_append.mp ha).elim (r1'.trk a) (r2.trk a)) (.sublist (sl.trans (List.sublist_append_left _ _))))⟩
    · rw [if_neg hi] at o1
      exact False.elim o1⟩
/-! ### int(x) -/
def intS : List D → Option D
  | [.int i] => some (.int i)
  | [.bl b] => some (.int (if b = true then 1 else 0))
  | _ => none
theorem cd_int : CallD X c (.type "int") intS := by
  intro pins st σ H xs us P I rx h
  obtain ⟨ds, F, r, h⟩ := h
  unfold intS at h
  split at h
  · obtain ⟨v, rfl, r1⟩ := r.one_inv
    cases r1
    exact call_int1 pins st σ H _ us P I rx (.inl ⟨_, rfl, h.imm (.int _)⟩)
  · obtain ⟨v, rfl, r1⟩ := r.one_inv
    cases r1
    exact call_int1 pins st σ H _ us P I rx (.inr ⟨_, rfl, h.imm (.int _)⟩)
  · exact False.elim h
/-! ### tuple(xs) -/
def tupS : List D → Option D
  | [.lst xs] => some (.tup xs)
  | _ => none
theorem cd_tuple : CallD X c (.type "tuple") tupS := by
  intro pins st σ H xs us P I rx h
  obtain ⟨ds, F, r, h⟩ := h
  unfold tupS at h
  split at h
  · obtain ⟨v, rfl, r1⟩ := r.one_inv
    obtain ⟨a, vs, G, rfl, ha, rfl, rr⟩ := r1.listed
    refine call_tuple_of pins st σ H _ us P I rx ⟨a, vs, rfl, .inl ⟨.of ha, fun p hp => ?_⟩⟩
    have sm := upd_newSame (o := .tup vs) hp
    exact h _ _ G sm (.tup upd_same (rr.same sm)) (.sublist (List.sublist_cons_self _ _))
  · exact False.elim h
/-! ### list(range(n)) -/
def fLRange (f : Env → R D) : Env → R D := fun ρ => (f ρ).bind fun d => match d with
  | .int n => if 0 ≤ n ∧ n ≤ 1000000 then .ok (.lst (rngD n)) else .no
  | _ => .no
theorem rps_rng {cm : Md} {H : Hp} (n : Int) : Rps cm H (rgV 0 n) (rngD n) [] := by
  have e : rgV 0 n = ((List.range n.toNat).map fun i => (((i : Nat) : Int))).map V.int := by
    unfold rgV
    rw [List.map_map, Int.sub_zero]
    apply List.map_congr_left
    intro i _
    simp
  have e2 : rngD n = ((List.range n.toNat).map fun i => (((i : Nat) : Int))).map D.int := by
    unfold rngD
    rw [List.map_map]
    rfl
  rw [e, e2]
  exact rps_ints' _
theorem de_listRange (hc : X.calm = true) (hg : Gl X "list") (hm : X.mg "list" = none) (hg2 : Gl X "range") (hm2 : X.mg "range" = none) (ha : DE X c qa e f)
    (na : starEach [e] X.env = (false, eval e X.env) :: starEach [] X.env := by rfl) (nb : starEach [.Call (.Name "range" p2) [e] [] pos2] X.env = (false, eval (.Call (.Name "range" p2) [e] [] pos2) X.env) :: starEach [] X.env := by rfl) :
    DE X c (.n []) (.Call (.Name "list" p) [.Call (.Name "range" p2) [e] [] pos2] [] pos) (fLRange f) :=
  PE.imp (pe_listRg hc hg hm (prg_1 hg2 hm2 ha na) nb) fun σ H P ⟨ρ, own, g, o⟩ => ⟨ρ, own, g, outR.bind o fun d v H1 F hd s1 r1 k1 o1 => by
    cases r1 with
    | int n =>
      by_cases hn : 0 ≤ n ∧ n ≤ 1000000
      · have o2 : outR c (.n []) σ H own (Rp c.cm) (R.ok (.lst (rngD n))) P := by
          have o1 : outR c (.n []) σ H own (Rp c.cm) (if 0 ≤ n ∧ n ≤ 1000000 then .ok (.lst (rngD n)) else .no) P := o1
          rw [if_pos hn] at o1
          exact o1
        refine ⟨n, rfl, .of_le (by decide) (by omega) (by decide) hn.1, fun pp hp => ?_⟩
        have sm := upd_newSame (o := .lst (rgV 0 n)) hp
        refine o2 _ _ [pp] (s1.trans sm) (.lst upd_same ((rps_rng n).same sm)) ⟨List.nodup_cons.mpr ⟨(fun z => nomatch z), List.nodup_nil⟩, fun z hz => ?_⟩
        rw [List.mem_singleton] at hz
        subst hz
        exact .inl (s1.free hp)
      · have o1 : outR c (.n []) σ H own (Rp c.cm) (if 0 ≤ n ∧ n ≤ 1000000 then .ok (.lst (rngD n)) else .no) P := o1
        rw [if_neg hn] at o1
        exact False.elim o1
    | _ => exact False.elim o1⟩
/-! ### {k: v} -/
def fDisp1 (fk fv : Env → R D) : Env → R D := fun ρ => (fk ρ).bind fun kd => (fv ρ).bind fun y => match keyOf kd with
  | some kk => if imm y = true then .ok (.dK [kk] [y]) else .no
  | none => .no
theorem de_disp1 {v : Expr} {fv : Env → R D} (hk : DE X c qa k fk) (hv : DE X c qb v fv) : DE X c q (.Dict [some k] [v] pos) (fDisp1 fk fv) :=
  PE.imp (pe_disp (pps_cons hk hv pps_nil) rfl rfl (by simp) (by simp)) fun σ H P ⟨ρ, own, g, o⟩ p hp => by
    have sm := upd_newSame (o := .dK []) hp
    unfold fDisp1 at o
    have o' := o.later sm
    have g1 := g.same sm
    refine ⟨ρ, own, g1, outR.bind o' fun kd kv H2 F hkd s2 rk k2 o2 => ⟨ρ, own, g1.same s2, outR.bind (o2.later s2) fun y yv H3 G hy s3 ry k3 o3 => ?_⟩⟩
    rw [hkd] at o
    simp only [R.bind_ok] at o
    rw [hy] at o
    simp only [R.bind_ok] at o
    cases hkk : keyOf kd with
    | none => rw [hkk] at o; exact False.elim o
    | some kk =>
      rw [hkk] at o
      by_cases hi : imm y = true
      · have o2 : outR c q σ H own (Rp c.cm) (R.ok (.dK [kk] [y])) P := by
          have o2 : outR c q σ H own (Rp c.cm) (if imm y = true then R.ok (.dK [kk] [y]) else .no) P := o
          rw [if_pos hi] at o2; exact o2
        have hG := ry.imm hi
        subst hG
        have ek := rk.key hkk
        subst ek
        have hp3 : H3 p = some (.dK []) := s3 _ _ (s2 _ _ upd_same)
        refine ⟨hp3, [(kk, yv)], rfl, by simp, ?_⟩
        have ss : Same H (upd H3 p (.dK [(kk, yv)])) := fun b ob hb => by
          rw [upd_ne (ne_of_none hb hp)]
          exact s3 _ _ (s2 _ _ (sm _ _ hb))
        have ry' : Rp c.cm (upd H3 p (.dK [(kk, yv)])) yv y [] := ry.mono fun b ob hb z => by
          rw [upd_ne]
          · exact hb
          · intro e
            subst e
            rcases z with z | z
            · cases z
            · rw [hp3] at hb; cases hb; cases z
        have em : mergeK [] [(kk, yv)] = [(kk, yv)] := rfl
        rw [em]
        refine o2 _ _ [p] ss (.dK (.inl upd_same) rfl (.one ry')) ?_
        exact (QOk.nil : QOk c q H own []).der g (Same.refl H) (fun _ h => nomatch h) (.cons hp (List.Sublist.refl _))
      · have o2 : outR c q σ H own (Rp c.cm) (if imm y = true then R.ok (.dK [kk] [y]) else .no) P := o
        rw [if_neg hi] at o2
        exact False.elim o2
/-! ### xs.index(x), whole numbers -/
def fndI (k : Int) : List Int → Option Nat
  | [] => none
  | n :: ns => if n = k then some 0 else (fndI k ns).map (· + 1)
def idxD (d k : D) : Option D := match d, k with
  | .lst xs, .int z => match intsOf xs with
    | some ns => (fndI z ns).map fun j => .int (j : Nat)
    | none => none
  | _, _ => none
theorem fndI_at {k : Int} : ∀ {ns : List Int} {j : Nat}, fndI k ns = some j → ns[j]? = some k ∧ ∀ m : Nat, m < j → ns[m]? ≠ some k
  | [], j, h => by cases h
  | n :: ns, j, h => by
    unfold fndI at h
    split at h
    · rename_i e
      cases h
      exact ⟨by simp [e], fun m hm => absurd hm (Nat.not_lt_zero _)⟩
    · rename_i e
      obtain ⟨j', h1, h2⟩ := Option.map_eq_some_iff.mp h
      obtain ⟨h3, h4⟩ := fndI_at h1
      subst h2
      refine ⟨by simpa using h3, fun m hm => ?_⟩
      cases m with
      | zero => simpa using e
      | succ m => simpa using h4 m (by omega)
def fIdx (fa fk : Env → R D) : Env → R D := fun ρ => (fa ρ).bind fun d => match d with
  | .lst xs => (fk ρ).bind fun k => ofO (idxD (.lst xs) k)
  | _ => .no
theorem de_index (ha : DE X c qa a fa) (hk : DE X c qb k fk)
    (hbase : attributeBase a "index" X.env (eval a X.env) = eval a X.env := by rfl)
    (hfew : ((backTo cpos (starEach [k] X.env)).all (fun x => !x.1) && (backToKw cpos (keywordEach [] X.env)).all (fun x => x.1.isSome)
      && decide ([k].length + ([] : List Keyword).length + (if ([] : List Keyword).isEmpty then 0 else 1) < 30)) = true := by rfl)
    (hline : (apos.endLine == cpos.line) = true := by rfl) (hs : starEach [k] X.env = (false, eval k X.env) :: starEach [] X.env := by rfl) (hplain : (backTo cpos (starEach [] X.env)).any (·.1) = false := by rfl) :
    DE X c q (.Call (.Attribute a "index" apos) [k] [] cpos) (fIdx fa fk) :=
  PE.imp (pe_bm PySem.F.plainAttrs_list PySem.F.slot_list_index PySem.F.type_list_index mt_index ha (pa_cons hk pa_nil hs) hbase hfew hline hs hplain) fun σ H P ⟨ρ, own, g, o⟩ => ⟨ρ, own, g, outR.bind o fun d v H1 F hd s1 r1 k1 o1 => by
    cases d with
    | lst xs =>
      cases r1 with
      | @lst ad vs _ G e1 rr =>
        refine ⟨.inl ⟨rfl, vs, .of e1⟩, ρ, own, g.same s1, ?_⟩
        have o2 : outR c q σ H own (Rp c.cm) ((fk ρ).bind fun k => ofO (idxD (.lst xs) k)) P := o1
        refine outR.bind (o2.later s1) fun kd u H2 G2 hkd s2 r2 k2 o3 => ?_
        rw [hkd] at o2
        have o2 : outR c q σ H own (Rp c.cm) (ofO (idxD (.lst xs) kd)) P := o2
        cases kd with
        | int z =>
          unfold idxD at o2
          cases hn : intsOf xs with
          | none => simp only [hn, ofO] at o2; exact False.elim o2
          | some ns =>
            cases hj : fndI z ns with
            | none => simp only [hn, hj, Option.map_none, ofO] at o2; exact False.elim o2
            | some j =>
              simp only [hn, hj, Option.map_some, ofO] at o2
              cases r2
              obtain ⟨h1, h2⟩ := fndI_at hj
              have ev := rr.ints hn
              subst ev
              refine ⟨ad, ns.map V.int, .int z, j, .int z, rfl, rfl, .of (s2 _ _ e1), rfl, by simp [List.all_eq_true, flatV], by rw [List.getElem?_map, h1]; rfl, by simp [eqV], fun m z' hm hz => ?_, o2 _ H2 [] (s1.trans s2) (.int _) .nil⟩
              rw [List.getElem?_map] at hz
              obtain ⟨y, hy, rfl⟩ := Option.map_eq_some_iff.mp hz
              have : y ≠ z := fun e => h2 m hm (by rw [hy, e])
              simp [eqV, this]
        | _ => exact False.elim o2
    | _ => exact False.elim o1⟩
/-! ### for a, b in zip(xs, ys), over lists -/
def fZip (fa fb : Env → R D) : Env → R (List D) := fun ρ => (fa ρ).bind fun d => (fb ρ).bind fun e => match itmL d, itmL e with
  | some xs, some ys => .ok (zipD xs ys)
  | _, _ => .no
theorem zipD_get : ∀ (xs ys : List D) (i : Nat), (zipD xs ys)[i]? = match xs[i]?, ys[i]? with
    | some x, some y => some (.tup [x, y])
    | _, _ => none
  | [], ys, i => by simp [zipD]
  | x :: xs, [], i => by cases i <;> simp [zipD] <;> (cases xs[_]? <;> rfl)
  | x :: xs, y :: ys, 0 => rfl
  | x :: xs, y :: ys, i + 1 => by
    show (zipD xs ys)[i]? = _
    rw [zipD_get xs ys i]
    simp
theorem zipD_len : ∀ xs ys : List D, (zipD xs ys).length = min xs.length ys.length
  | [], ys => by simp [zipD]
  | x :: xs, [] => by simp [zipD]
  | x :: xs, y :: ys => by simp only [zipD, List.length_cons, zipD_len xs ys]; omega
theorem izip {elts : List Expr} {kk : Nat} (hg : Gl X "zip") (hm : X.mg "zip" = none) (ha : DE X c .z e fa) (hb : DE X c .z e2 fb)
    (hs : starEach [e, e2] X.env = (false, eval e X.env) :: starEach [e2] X.env := by rfl) (hs' : starEach [e2] X.env = (false, eval e2 X.env) :: starEach [] X.env := by rfl) (hpl : (backTo pos (starEach [e2] X.env)).any (·.1) = false := by rfl) (hK : c.cm.K = X.K := by rfl) :
    DI X c (.Tuple elts kk tpos) (.Call (.Name "zip" p) [e, e2] [] pos) (fZip fa fb) :=
  PI.imp (RZ.pi_zipA hg hm (pa_cons ha (pa_cons hb pa_nil hs') hs) hs hpl) fun σ H Rr ⟨ρ, own, g, o⟩ => ⟨ρ, own, g, by
    unfold fZip at o
    cases hf : fa ρ with
    | no => rw [hf] at o; exact o
    | exc x => rw [hf] at o; exact o
    | ok d =>
      rw [hf] at o
      intro v H1 F s1 r1 k1
      refine ⟨ρ, own, g.same s1, ?_⟩
      cases hf2 : fb ρ with
      | no => simp only [R.bind_ok, hf2, R.bind_no] at o
      | exc x => simp only [R.bind_ok, hf2, R.bind_exc] at o; exact fun C dd H' e9 s9 => o C dd H' e9 (s1.trans s9)
      | ok d2 =>
        simp only [R.bind_ok, hf2] at o
        intro u H2 F2 s2 r2 k2
        have s12 := s1.trans s2
        have g2 := (g.same s1).same s2
        cases hi : itmL d with
        | none => simp only [hi] at o
        | some xs =>
          cases hj : itmL d2 with
          | none => simp only [hi, hj] at o
          | some ys =>
            simp only [hi, hj] at o
            have r1' := r1.same s2
            have ex1 : ∃ a vs G, v = .ref a ∧ Rps c.cm H2 vs xs G ∧ (∀ H own', Ext H2 own H own' → SqL X.K H a vs) ∧ ∀ b ∈ G, c.B b ∧ ∀ j, b ∉ own j := by
              cases r1' with
              | lst e r => cases hi; exact ⟨_, _, _, rfl, r, fun H own' x => sq_ext g2.ownM (k1 _ List.mem_cons_self).2 x (.of e), fun b hb => k1 b (List.mem_cons_of_mem _ hb)⟩
              | frz e r => cases hi; rw [hK] at e; exact ⟨_, _, _, rfl, r, fun H own' x => (fz_ext g2.ownM x e).sq, k1⟩
              | _ => cases hi
            have ex2 : ∃ a vs G, u = .ref a ∧ Rps c.cm H2 vs ys G ∧ (∀ H own', Ext H2 own H own' → SqL X.K H a vs) ∧ ∀ b ∈ G, c.B b ∧ ∀ j, b ∉ own j := by
              cases r2 with
              | lst e r => cases hj; exact ⟨_, _, _, rfl, r, fun H own' x => sq_ext g2.ownM (k2 _ List.mem_cons_self).2 x (.of e), fun b hb => k2 b (List.mem_cons_of_mem _ hb)⟩
              | frz e r => cases hj; rw [hK] at e; exact ⟨_, _, _, rfl, r, fun H own' x => (fz_ext g2.ownM x e).sq, k2⟩
              | _ => cases hj
            obtain ⟨a1, vs, G1, rfl, rr1, q1, z1⟩ := ex1
            obtain ⟨a2, ws, G2, rfl, rr2, q2, z2⟩ := ex2
            refine ⟨a1, a2, vs, ws, rfl, .inl ⟨q1 H2 own .refl, q2 H2 own .refl, o _ H2 s12 ⟨fun i H own' d x _ hd => ?_, fun i H own' d y H' x _ hd hy => ?_, fun i H own' x _ hi => ?_⟩⟩⟩
            · rw [zipD_get] at hd
              cases h1 : xs[i]? with
              | none => simp [h1] at hd
              | some x1 =>
                cases h2 : ys[i]? with
                | none => simp [h1, h2] at hd
                | some y1 =>
                  obtain ⟨v1, _, h3, _, _⟩ := rr1.get h1
                  obtain ⟨v2, _, h4, _, _⟩ := rr2.get h2
                  exact ⟨vs, ws, v1, v2, q1 _ _ x, q2 _ _ x, h3, h4⟩
            · rw [zipD_get] at hd
              cases h1 : xs[i]? with
              | none => simp [h1] at hd
              | some x1 =>
                cases h2 : ys[i]? with
                | none => simp [h1, h2] at hd
                | some y1 =>
                  simp only [h1, h2] at hd
                  cases hd
                  obtain ⟨T, v1, v2, rfl, hT, rfl, hy1, hy2⟩ := hy
                  have sm := upd_newSame (o := .tup [v1, v2]) hT
                  obtain ⟨Ga, h3, h4⟩ := item_ok (a := a1) g2 x rr1 z1 h1 (hy1 vs (q1 _ _ x))
                  obtain ⟨Gb, h5, h6⟩ := item_ok (a := a2) g2 x rr2 z2 h2 (hy2 ws (q2 _ _ x))
                  exact ⟨sm, Ga ++ Gb, .tup upd_same (.cons (h3.same sm) (.one (h5.same sm))), fun b hb => (List.mem_append.mp hb).elim (h4 b) (h6 b)⟩
            · refine ⟨vs, ws, q1 _ _ x, q2 _ _ x, ?_⟩
              rw [zipD_len] at hi
              rw [rr1.length, rr2.length]
              omega⟩
end
end Pd
set_option Elab.async false
set_option linter.all false
set_option maxRecDepth 100000
set_option maxHeartbeats 4000000
namespace Pd
open PySem PySem.Spec PyProof.Rows L2
/-! ### comprehensions over lists of things that nobody can write -/
structure ItI (c : Cfg) (H1 : Hp) (J : It) (ds : List D) : Prop where
  go : ∀ i H d, Same H1 H → ds[i]? = some d → J.go i H
  yld : ∀ i H d x H', Same H1 H → ds[i]? = some d → J.yld i H x H' → Same H H' ∧ Rp c.cm H' x d []
  stop : ∀ i H, Same H1 H → ds.length ≤ i → J.stop i H
def rdII (c : Cfg) (f : Env → R (List D)) : TI := fun σ H Rr => ∃ ρ own, Gd c σ H ρ own ∧ match f ρ with
  | .ok ds => ∀ J H1, Same H H1 → ItI c H1 J ds → Rr J H1
  | .exc x => ∀ C dd H', ClX c.cm x C dd → Same H H' → c.W (.ref C) dd σ H'
  | .no => False
abbrev DII (X : Cx) (c : Cfg) (tg iter : Expr) (f : Env → R (List D)) : Prop := PI X tg iter (rdII c f)
def immL (ds : List D) : R (List D) := if immAll ds = true then .ok ds else .no
def fImI (f : Env → R (List D)) : Env → R (List D) := fun ρ => (f ρ).bind immL
section
variable {X : Cx} {c : Cfg} {q q1 q2 qa qb : Q} {tg e e2 iter elt : Expr} {a b k : Expr} {es ifs : List Expr} {st : Stmt} {body sts : List Stmt} {p p2 p' pos pos' pos2 apos cpos tpos : Pos} {f fa fb fe fk fv : Env → R D} {ft : Env → R Bool} {fp : Env → R (List Nat)} {fi fs : Env → R (List D)} {σ : L2.St} {H H1 : Hp} {ρ : Env} {own : Ow} {g : Env → SR}
  {h : D → Env → Option Env} {ts : List Nat} {i : Nat} {x : Str}
theorem dii_seq (ha : DE X c qa e f) (hK : c.cm.K = X.K := by rfl) : DII X c tg e (fImI (fItm f)) := pi_seq ha fun σ H Rr ⟨ρ, own, g, o⟩ => ⟨ρ, own, g, by
  unfold fImI fItm at o
  cases hf : f ρ with
  | no => rw [hf] at o; exact o
  | exc x => rw [hf] at o; exact o
  | ok d =>
    rw [hf] at o
    intro v H1 F s1 r1 k1
    have o' : match (ofO (itm d)).bind immL with
      | .ok ds => ∀ J H1, Same H H1 → ItI c H1 J ds → Rr J H1
      | .exc x => ∀ C dd H', ClX c.cm x C dd → Same H H' → c.W (.ref C) dd σ H'
      | .no => False := o
    cases hi : itm d with
    | none => rw [hi] at o'; exact False.elim o'
    | some ds =>
      rw [hi] at o'
      have o' : match immL ds with
        | .ok ds => ∀ J H1, Same H H1 → ItI c H1 J ds → Rr J H1
        | .exc x => ∀ C dd H', ClX c.cm x C dd → Same H H' → c.W (.ref C) dd σ H'
        | .no => False := o'
      unfold immL at o'
      by_cases him : immAll ds = true
      · rw [if_pos him] at o'
        have goL : ∀ {a : Addr} {vs : List V} {G : List Addr}, (∀ H, Same H1 H → SqL X.K H a vs) → Rps c.cm H1 vs ds G → ItI c H1 (Itl X.K a) ds := fun {a vs G} hq rr => by
          have := rr.imm him
          subst this
          refine ⟨fun i H d s hd => ?_, fun i H d y H' s hd hy => ?_, fun i H s hi => ⟨vs, hq H s, by rw [rr.length]; exact hi⟩⟩
          · obtain ⟨v, G, h1, _, _⟩ := rr.get hd
            exact ⟨vs, v, hq H s, h1⟩
          · obtain ⟨e, hy⟩ := hy
            subst e
            obtain ⟨v, G, h1, h2, h3⟩ := rr.get hd
            have e2 := hy vs (hq _ s)
            rw [h1] at e2
            cases e2
            have := List.eq_nil_of_sublist_nil h3
            subst this
            exact ⟨Same.refl _, h2.same s⟩
        have goT : ∀ {a : Addr} {vs : List V} {G : List Addr}, (∀ H, Same H1 H → SqT X.K H a vs) → Rps c.cm H1 vs ds G → ItI c H1 (Itt X.K a) ds := fun {a vs G} hq rr => by
          have := rr.imm him
          subst this
          refine ⟨fun i H d s hd => ?_, fun i H d y H' s hd hy => ?_, fun i H s hi => ⟨vs, hq H s, by rw [rr.length]; exact hi⟩⟩
          · obtain ⟨v, G, h1, _, _⟩ := rr.get hd
            exact ⟨vs, v, hq H s, h1⟩
          · obtain ⟨e, hy⟩ := hy
            subst e
            obtain ⟨v, G, h1, h2, h3⟩ := rr.get hd
            have e2 := hy vs (hq _ s)
            rw [h1] at e2
            cases e2
            have := List.eq_nil_of_sublist_nil h3
            subst this
            exact ⟨Same.refl _, h2.same s⟩
        cases r1 with
        | lst e r => cases hi; exact ⟨_, rfl, .inl ⟨⟨_, .of e⟩, o' _ H1 s1 (goL (fun H s => .of (s _ _ e)) r)⟩⟩
        | frz e r =>
          cases hi
          rw [hK] at e
          exact ⟨_, rfl, .inl ⟨⟨_, e.sq⟩, o' _ H1 s1 (goL (fun H s => FzL.sq (K := X.K) (show FzL X.K H _ _ from e.imp (fun ⟨o, z⟩ => ⟨o, s _ _ z⟩) id)) r)⟩⟩
        | tup e r => cases hi; exact ⟨_, rfl, .inr ⟨⟨_, .of e⟩, o' _ H1 s1 (goT (fun H s => .of (s _ _ e)) r)⟩⟩
        | _ => cases hi
      · rw [if_neg him] at o'
        exact False.elim o'⟩
theorem dii_range (hg : Gl X "range") (hm : X.mg "range" = none) (ha : DE X c qa e f) (hs : starEach [e] X.env = [(false, eval e X.env)] := by rfl) (hs' : starEach [e] X.env = (false, eval e X.env) :: starEach [] X.env := by rfl) : DII X c tg (.Call (.Name "range" p) [e] [] pos) (fRange f) :=
  PI.imp (pi_range1 hg hm (pa_cons ha pa_nil hs') hs) fun σ H Rr ⟨ρ, own, g, o⟩ => ⟨ρ, own, g, by
    unfold fRange at o
    cases hf : f ρ with
    | no => rw [hf] at o; exact o
    | exc x => rw [hf] at o; exact o
    | ok d =>
      rw [hf] at o
      intro v H1 F s1 r1 k1
      cases r1 with
      | int n =>
        have o' : match (if -1000000 ≤ n ∧ n ≤ 1000000 then R.ok (rngD n) else .no) with
          | .ok ds => ∀ J H1, Same H H1 → ItI c H1 J ds → Rr J H1
          | .exc x => ∀ C dd H', ClX c.cm x C dd → Same H H' → c.W (.ref C) dd σ H'
          | .no => False := o
        by_cases hn : -1000000 ≤ n ∧ n ≤ 1000000
        · rw [if_pos hn] at o'
          refine ⟨n, rfl, by omega, by omega, o' _ H1 s1 ⟨fun i H d s hd => ?_, fun i H d y H' s hd hy => ?_, fun i H s hi => ?_⟩⟩
          · have := (List.getElem?_eq_some_iff.mp hd).1
            show i < n.toNat
            simpa [rngD] using this
          · obtain ⟨e1, e2⟩ := hy
            subst e1 e2
            have hi := (List.getElem?_eq_some_iff.mp hd).1
            simp only [rngD, List.length_map, List.length_range] at hi
            have hd2 : some (D.int ((i : Nat) : Int)) = some d := by
              rw [← hd]
              simp [rngD, hi]
            cases hd2
            refine ⟨Same.refl _, ?_⟩
            have : (0 : Int) + ((i : Nat) : Int) = ((i : Nat) : Int) := by omega
            rw [this]
            exact .int _
          · show n.toNat ≤ i
            simpa [rngD] using hi
        · rw [if_neg hn] at o'
          exact False.elim o'
      | _ => exact False.elim o⟩
theorem lc_coreI {P : VK} {vs : List Nat} {ds all : List D} {J : It} (hqe : Qz q) (hts : ∀ t ∈ ts, t ∈ vs) (g1 : Gd c σ H1 ρ own) (it : ItI c H1 J ds) (hl : ds.length ≤ SZ) (hgo : lcGo h ft fe (wipeE ρ vs) ds = .ok all)
    (o1 : ∀ v H' F, Same H1 H' → Rp c.cm H' v (.lst all) F → QOk c q H1 own F → P v H') :
    ∀ D, H1 D = none → ∃ W : Nat → Nat → Hp → Prop, (∃ m, W 0 m (upd H1 D (.lst []))) ∧ ∀ i m H, W i m H →
      (J.stop i H ∧ P (.ref D) H) ∨ (J.go i H ∧ ∃ Nx : Hp → Prop, (∀ H', Nx H' → ∃ m', m' < m ∧ W (i + 1) m' H') ∧ ∀ x H', J.yld i H x H' → rdG c.nox h ts x (wipe σ vs) H' fun σ2 H2 => wipe σ2 vs = wipe σ vs ∧ rdT c.nox ft σ2 H2 fun b H3 =>
        if b = true then rd c.nox q fe σ2 H3 fun y H4 => ∃ acc, H4 D = some (.lst acc) ∧ acc.length < sizeLine ∧ Nx (upd H4 D (.lst (acc ++ [y]))) else Nx H3) := by
  intro D hD
  have hnd : ∀ {b : Addr} {o : HO}, H1 b = some o → b ≠ D := fun e => ne_of_none e hD
  have smD : Same H1 (upd H1 D (.lst [])) := upd_newSame hD
  refine ⟨fun i m Hh => m = ds.length - i ∧ i ≤ ds.length ∧ Same H1 Hh ∧ ∃ acc ys F rest, Hh D = some (.lst acc) ∧ Rps c.cm Hh acc ys F ∧ D ∉ F ∧ QOk c q H1 own F ∧ lcGo h ft fe (wipeE ρ vs) (ds.drop i) = .ok rest ∧ all = ys ++ rest ∧ acc.length ≤ i,
    ⟨ds.length, by simp, Nat.zero_le _, smD, [], [], [], all, upd_same, .nil, (fun z => nomatch z), .nil, hgo, rfl, Nat.le_refl _⟩, ?_⟩
  rintro i m Hh ⟨rfl, hi, sh, acc, ys, F, rest, hHD, rr, hDF, kq, hrest, hall, hacc⟩
  obtain ⟨own2, gh, x, _, ⟨N, hDN⟩, hsub⟩ := g1.tmp sh hD hHD rfl
  by_cases hlt : i < ds.length
  · refine .inr ⟨it.go i Hh _ sh (List.getElem?_eq_getElem hlt), fun H' => i + 1 ≤ ds.length ∧ Same H1 H' ∧ ∃ acc ys F rest, H' D = some (.lst acc) ∧ Rps c.cm H' acc ys F ∧ D ∉ F ∧ QOk c q H1 own F ∧ lcGo h ft fe (wipeE ρ vs) (ds.drop (i + 1)) = .ok rest ∧ all = ys ++ rest ∧ acc.length ≤ i + 1,
      fun H' ⟨a1, a2⟩ => ⟨ds.length - (i + 1), by omega, rfl, a1, a2⟩, fun y H2 hy => ?_⟩
    obtain ⟨s2, ry⟩ := it.yld i Hh _ y H2 sh (List.getElem?_eq_getElem hlt) hy
    rw [List.drop_eq_getElem_cons hlt] at hrest
    unfold lcGo at hrest
    cases htg : h ds[i] (wipeE ρ vs) with
    | none => simp only [htg] at hrest; cases hrest
    | some ρ1 =>
      simp only [htg] at hrest
      refine ⟨wipeE ρ vs, own2, ds[i], [], ((gh.same s2).wipe vs).nox, ry, (fun _ h => nomatch h), ρ1, htg, fun σ2 g2 w2 => ⟨(w2 vs hts).trans (wipe_wipe σ vs), ρ1, own2, g2, ?_⟩⟩
      cases hft : ft ρ1 with
      | no => simp only [hft] at hrest; cases hrest
      | exc x => simp only [hft] at hrest; cases hrest
      | ok b =>
        simp only [hft] at hrest
        rintro b' H3 F3 s3 ⟨rfl, rfl⟩ _
        cases b' with
        | false =>
          rw [if_neg Bool.false_ne_true]
          exact ⟨hlt, (sh.trans s2).trans s3, acc, ys, F, rest, s3 _ _ (s2 _ _ hHD), (rr.same s2).same s3, hDF, kq, hrest, hall, Nat.le_succ_of_le hacc⟩
        | true =>
          rw [if_pos rfl]
          refine ⟨ρ1, own2, g2.same s3, ?_⟩
          cases hfe : fe ρ1 with
          | no => simp only [hfe] at hrest; cases hrest
          | exc x => simp only [hfe] at hrest; cases hrest
          | ok yd =>
            simp only [hfe] at hrest
            intro v H4 F4 s4 r4 k4
            cases hlc : lcGo h ft fe (wipeE ρ vs) (ds.drop (i + 1)) with
            | no => simp only [hlc] at hrest; cases hrest
            | exc x => simp only [hlc] at hrest; cases hrest
            | ok zs =>
              simp only [hlc] at hrest
              cases hrest
              have s24 := (s2.trans s3).trans s4
              have kDF : D ∉ F4 := fun hz => by
                have hD3 : H3 D ≠ none := by rw [s3 _ _ (s2 _ _ hHD)]; exact Option.some_ne_none _
                revert k4
                cases hqe with
                | z => exact fun k4 => (k4 D hz).2 N hDN
                | n => exact fun k4 => (k4.2 D hz).elim (fun z => hD3 z) fun ⟨_, z, _⟩ => nomatch z
              have k4' : QOk c q H3 own F4 := by
                revert k4
                cases hqe with
                | z => exact fun k4 a ha => ⟨(k4 a ha).1, hsub a (k4 a ha).2⟩
                | n => exact fun k4 => ⟨k4.1, fun a ha => (k4.2 a ha).imp id fun ⟨_, z, _⟩ => nomatch z⟩
              refine ⟨acc, s24 _ _ hHD, Nat.lt_of_le_of_lt hacc (Nat.lt_of_lt_of_le hlt (Nat.le_trans hl SZ_le)), hlt, ?_, acc ++ [v], ys ++ [yd], F ++ F4, zs, upd_same, ?_, ?_, ?_, by first | exact hlc | rfl, by simp [hall], by simp; omega⟩
              · exact fun b ob e => by
                  rw [upd_ne (hnd e)]
                  exact s24 _ _ (sh b ob e)
              · have q1 := (rr.same s24).append (.one r4)
                refine q1.mono fun b ob e z => ?_
                have hbD : b ≠ D := by
                  rintro rfl
                  rcases z with z | z
                  · exact (List.mem_append.mp z).elim hDF kDF
                  · rw [s24 _ _ hHD] at e; cases e; cases z
                rw [upd_ne hbD]; exact e
              · exact fun z => (List.mem_append.mp z).elim hDF kDF
              · exact kq.join hqe.j g1 (sh.trans (s2.trans s3)) (fun a ha => by have := rr.trk a ha; exact Same.dom (s2.trans s3) a this) k4'
  · have hie : i = ds.length := by omega
    subst hie
    refine .inl ⟨it.stop _ Hh sh (Nat.le_refl _), ?_⟩
    rw [List.drop_length] at hrest
    cases hrest
    rw [List.append_nil] at hall
    subst hall
    refine o1 (.ref D) Hh (D :: F) sh (.lst hHD rr) ?_
    have dd : Der H1 F (D :: F) := .cons hD (List.Sublist.refl _)
    cases q with
    | b => exact fun a ha => (List.mem_cons.mp ha).elim (fun e => by subst e; exact g1.newB hD) (kq a)
    | z => exact fun a ha => (List.mem_cons.mp ha).elim (fun e => by subst e; exact ⟨g1.newB hD, g1.newOwn hD⟩) (kq a)
    | n S => exact ⟨List.nodup_cons.mpr ⟨hDF, kq.1⟩, fun a ha => (List.mem_cons.mp ha).elim (fun e => by subst e; exact .inl hD) fun z => kq.2 a z⟩
theorem lcI_core' {P : VK} (hqe : Qz q) {vs : List Nat} (hts : ∀ t ∈ ts, t ∈ vs) (hh : rd c q (fLc fi h ft fe vs) σ H P) : tLc (rdII c fi) (rdG c.nox h ts) (rdT c.nox ft) (rd c.nox q fe) vs σ H P := by
  obtain ⟨ρ, own, g, o⟩ := hh
  unfold fLc at o
  refine ⟨ρ, own, g, ?_⟩
  cases hf : fi ρ with
  | no => rw [hf] at o; exact o
  | exc x => rw [hf] at o; exact o
  | ok ds =>
    rw [hf] at o
    intro J H1 s1 it
    have o1 : outR c q σ H own (Rp c.cm) (if ds.length ≤ SZ then (match lcGo h ft fe (wipeE ρ vs) ds with
      | .ok ys => .ok (.lst ys)
      | _ => .no) else .no) P := o
    by_cases hl : ds.length ≤ SZ
    · rw [if_pos hl] at o1
      cases hgo : lcGo h ft fe (wipeE ρ vs) ds with
      | no => rw [hgo] at o1; exact False.elim o1
      | exc x => rw [hgo] at o1; exact False.elim o1
      | ok all =>
        rw [hgo] at o1
        exact lc_coreI (P := P) hqe hts (g.same s1) it hl hgo fun v' H' F' s' r' k' => o1 v' H' F' (s1.trans s') r' (k'.new s1)
    · rw [if_neg hl] at o1
      exact False.elim o1
theorem elcI {scope : Scope} (own : List (Str × Nat)) (hc : X.calm = true) (hN : X.N.Nodup) (hqz : Qz q) (hi : DII X c tg iter fi)
    (hg : ∀ (s : Shared) (H : Hp) (C : Addr) (cl : List (Str × Addr)) (fp : List Addr), DG (X.blk s H scope (compEnvC scope cl C X.env) fp) c.nox tg h ts)
    (ht : ∀ (s : Shared) (H : Hp) (C : Addr) (cl : List (Str × Addr)) (fp : List Addr), DTs (X.blk s H scope (compEnvC scope cl C X.env) fp) c.nox ifs ft)
    (he : ∀ (s : Shared) (H : Hp) (C : Addr) (cl : List (Str × Addr)) (fp : List Addr), DE (X.blk s H scope (compEnvC scope cl C X.env) fp) c.nox q elt fe)
    (ok : BlkOk X.N X.env.scope scope own) (hs : ∀ x, foldedSetIterable iter X.env x = pure x := by intro _; rfl) (hts : ∀ t ∈ ts, t ∈ own.map (·.2) := by decide) :
    DE X c q (.ListComp elt [⟨tg, iter, ifs, 0⟩] scope pos) (fLc fi h ft fe (own.map (·.2))) :=
  PE.imp (pe_lc hc hN hi ok hg ht he hs) fun σ H P z => lcI_core' hqz hts z
/-- a comprehension given to an owned name, on one line -/
theorem setmLcI {scope : Scope} (i : Nat) (own : List (Str × Nat)) (hc : X.calm = true) (hN : X.N.Nodup) (hqz : Qz q) (hi : DII X c tg iter fi)
    (hg : ∀ (s : Shared) (H : Hp) (C : Addr) (cl : List (Str × Addr)) (fp : List Addr), DG (X.blk s H scope (compEnvC scope cl C X.env) fp) c.nox tg h ts)
    (ht : ∀ (s : Shared) (H : Hp) (C : Addr) (cl : List (Str × Addr)) (fp : List Addr), DTs (X.blk s H scope (compEnvC scope cl C X.env) fp) c.nox ifs ft)
    (he : ∀ (s : Shared) (H : Hp) (C : Addr) (cl : List (Str × Addr)) (fp : List Addr), DE (X.blk s H scope (compEnvC scope cl C X.env) fp) c.nox (.n []) elt fe)
    (ok : BlkOk X.N X.env.scope scope own) (hpin : c.pin i = none := by rfl) (hk : c.kd i = .m := by rfl) (hy : X.N[i]? = some x := by rfl) (hyl : X.env.scope.names.lookup x = some .local := by rfl) (hsw : swapsWith (.ListComp elt [⟨tg, iter, ifs, 0⟩] scope pos) (some (.Name x pos')) p.line X.env = pure true := by exact sw_true rfl rfl rfl (by decide +kernel))
    (hs : ∀ x, foldedSetIterable iter X.env x = pure x := by intro _; rfl) (hts : ∀ t ∈ ts, t ∈ own.map (·.2) := by decide) :
    DS X c (.Assign [.Name x pos'] (.ListComp elt [⟨tg, iter, ifs, 0⟩] scope pos) p) (sSet i (fLc fi h ft fe (own.map (·.2)))) :=
  PS.imp (ps_setLc hc hN hy hyl hsw hi ok hg ht he hs) fun D σ H z => lcI_core' .n hts (setm_core hpin hk z)
theorem setmLc {scope : Scope} (i : Nat) (own : List (Str × Nat)) (hc : X.calm = true) (hN : X.N.Nodup) (hqz : Qz q) (hi : DI X c tg iter fi)
    (hg : ∀ (s : Shared) (H : Hp) (C : Addr) (cl : List (Str × Addr)) (fp : List Addr), DG (X.blk s H scope (compEnvC scope cl C X.env) fp) c.nox tg h ts)
    (ht : ∀ (s : Shared) (H : Hp) (C : Addr) (cl : List (Str × Addr)) (fp : List Addr), DTs (X.blk s H scope (compEnvC scope cl C X.env) fp) c.nox ifs ft)
    (he : ∀ (s : Shared) (H : Hp) (C : Addr) (cl : List (Str × Addr)) (fp : List Addr), DE (X.blk s H scope (compEnvC scope cl C X.env) fp) c.nox (.n []) elt fe)
    (ok : BlkOk X.N X.env.scope scope own) (hpin : c.pin i = none := by rfl) (hk : c.kd i = .m := by rfl) (hy : X.N[i]? = some x := by rfl) (hyl : X.env.scope.names.lookup x = some .local := by rfl) (hsw : swapsWith (.ListComp elt [⟨tg, iter, ifs, 0⟩] scope pos) (some (.Name x pos')) p.line X.env = pure true := by exact sw_true rfl rfl rfl (by decide +kernel))
    (hs : ∀ x, foldedSetIterable iter X.env x = pure x := by intro _; rfl) (hts : ∀ t ∈ ts, t ∈ own.map (·.2) := by decide) :
    DS X c (.Assign [.Name x pos'] (.ListComp elt [⟨tg, iter, ifs, 0⟩] scope pos) p) (sSet i (fLc fi h ft fe (own.map (·.2)))) :=
  PS.imp (ps_setLc hc hN hy hyl hsw hi ok hg ht he hs) fun D σ H z => lc_core' .n hts (setm_core hpin hk z)
theorem setzLcI {scope : Scope} (i : Nat) (own : List (Str × Nat)) (hc : X.calm = true) (hN : X.N.Nodup) (hqz : Qz q) (hi : DII X c tg iter fi)
    (hg : ∀ (s : Shared) (H : Hp) (C : Addr) (cl : List (Str × Addr)) (fp : List Addr), DG (X.blk s H scope (compEnvC scope cl C X.env) fp) c.nox tg h ts)
    (ht : ∀ (s : Shared) (H : Hp) (C : Addr) (cl : List (Str × Addr)) (fp : List Addr), DTs (X.blk s H scope (compEnvC scope cl C X.env) fp) c.nox ifs ft)
    (he : ∀ (s : Shared) (H : Hp) (C : Addr) (cl : List (Str × Addr)) (fp : List Addr), DE (X.blk s H scope (compEnvC scope cl C X.env) fp) c.nox .z elt fe)
    (ok : BlkOk X.N X.env.scope scope own) (hk : c.kd i = .z := by rfl) (hy : X.N[i]? = some x := by rfl) (hyl : X.env.scope.names.lookup x = some .local := by rfl) (hsw : swapsWith (.ListComp elt [⟨tg, iter, ifs, 0⟩] scope pos) (some (.Name x pos')) p.line X.env = pure true := by exact sw_true rfl rfl rfl (by decide +kernel))
    (hs : ∀ x, foldedSetIterable iter X.env x = pure x := by intro _; rfl) (hts : ∀ t ∈ ts, t ∈ own.map (·.2) := by decide) :
    DS X c (.Assign [.Name x pos'] (.ListComp elt [⟨tg, iter, ifs, 0⟩] scope pos) p) (sSet i (fLc fi h ft fe (own.map (·.2)))) :=
  PS.imp (ps_setLc hc hN hy hyl hsw hi ok hg ht he hs) fun D σ H z => lcI_core' .z hts (setz_core hk z)
/-! ### the rules in short -/
theorem pnm (i : Nat) (hN : X.N[i]? = some x := by rfl) (hv : Vis X.env.scope x := by first | exact Or.inl rfl | exact Or.inr (Or.inl rfl) | exact Or.inr (Or.inr rfl)) (hd : (x == ("__debug__" : Str)) = false := by decide) (hcd : (x == ("__classdict__" : Str)) = false := by decide) : DP X c i (.Name x pos) (pRoot i) := dp_name hN hv hd hcd
theorem pix (ha : DP X c i a fp) (hk : DE X c qa b fk) (hs : PlainIx b := by exact fun _ _ => rfl) : DP X c i (.Subscript a b pos) (pIx i fp fk) := dp_ix ha hk hs
theorem puts (hu : X.A.units + 64 < cLine) (hv : DE X c (.n []) e fv) (ha : DP X c i a fp) (hb : DE X c qa b fk) (hk : c.kd i = .m := by rfl)
    (hs : swapsWithSole [.Subscript a b p] e pos.line X.env = pure false := by rfl) (hw : swappedStores [.Subscript a b p] e X.env = pure none := by rfl) (h1 : (assignEach [.Subscript a b p] X.env).map (·.2) = [assign (.Subscript a b p) X.env] := by rfl)
    (hag : ∀ v, assign (.Subscript a b p) X.env v = (do
      let ov ← holding [v] (eval a X.env)
      let iv ← holding [v, ov] (eval b X.env)
      standAt p
      holding [v, ov, iv] (setItem ov iv v)
      release [v, ov, iv] []) := by intro _; rfl) : DS X c (.Assign [.Subscript a b p] e pos) (sPut i fp fk fv) := ds_put hu hk hv ha hb hs hw h1 hag
theorem forK (i : Nat) (hp : PassesOwn (model X.prog X.w) X.A X.env X.xe) (hc : X.calm = true) (hg : ∀ lk H0, DG X (c.lkd lk H0) tg h ts) (hb : ∀ lk H0, DSs X (c.lkd lk H0) body g) (hk : c.kd i = .z := by rfl) (hN : X.N[i]? = some x := by rfl) (hv : Vis X.env.scope x := by first | exact Or.inl rfl | exact Or.inr (Or.inl rfl) | exact Or.inr (Or.inr rfl))
    (hdb : (x == ("__debug__" : Str)) = false := by decide) (hcd : (x == ("__classdict__" : Str)) = false := by decide) (hs : ∀ y, foldedSetIterable (.Name x p') X.env y = pure y := by intro _; rfl) : DS X c (.For tg (.Name x p') body [] pos) (sForK keysD i h g) := ds_forK hk hN hv hdb hcd hp hc hg hb hs
theorem forIt {elts : List Expr} {kk : Nat} (i : Nat) (hp : PassesOwn (model X.prog X.w) X.A X.env X.xe) (hc : X.calm = true) (hg : ∀ lk H0, DG X (c.lkd lk H0) (.Tuple elts kk tpos) h ts) (hb : ∀ lk H0, DSs X (c.lkd lk H0) body g) (hk : c.kd i = .z := by rfl) (hN : X.N[i]? = some x := by rfl) (hv : Vis X.env.scope x := by first | exact Or.inl rfl | exact Or.inr (Or.inl rfl) | exact Or.inr (Or.inr rfl))
    (hdb : (x == ("__debug__" : Str)) = false := by decide) (hcd : (x == ("__classdict__" : Str)) = false := by decide) (hs : ∀ y, foldedSetIterable (.Call (.Attribute (.Name x p') "items" apos) [] [] cpos) X.env y = pure y := by intro _; rfl)
    (hbase : attributeBase (.Name x p') "items" X.env (eval (.Name x p') X.env) = eval (.Name x p') X.env := by rfl) (hline : (apos.endLine == cpos.line) = true := by rfl) : DS X c (.For (.Tuple elts kk tpos) (.Call (.Attribute (.Name x p') "items" apos) [] [] cpos) body [] pos) (sForK itemsD i h g) := ds_forI hk hN hv hdb hcd hp hc hg hb hs hbase hline
theorem elcK {scope : Scope} (i : Nat) (ownn : List (Str × Nat)) (hc : X.calm = true) (hN : X.N.Nodup) (hqz : Qz q)
    (hg : ∀ lk H0 (s : Shared) (H : Hp) (C : Addr) (cl : List (Str × Addr)) (fp : List Addr), DG (X.blk s H scope (compEnvC scope cl C X.env) fp) (c.lkd lk H0).nox tg h ts)
    (ht : ∀ lk H0 (s : Shared) (H : Hp) (C : Addr) (cl : List (Str × Addr)) (fp : List Addr), DTs (X.blk s H scope (compEnvC scope cl C X.env) fp) (c.lkd lk H0).nox ifs ft)
    (he : ∀ lk H0 (s : Shared) (H : Hp) (C : Addr) (cl : List (Str × Addr)) (fp : List Addr), DE (X.blk s H scope (compEnvC scope cl C X.env) fp) (c.lkd lk H0).nox q elt fe)
    (ok : BlkOk X.N X.env.scope scope ownn) (hk : c.kd i = .z := by rfl) (hy : X.N[i]? = some x := by rfl) (hv : Vis X.env.scope x := by first | exact Or.inl rfl | exact Or.inr (Or.inl rfl) | exact Or.inr (Or.inr rfl)) (hdb : (x == ("__debug__" : Str)) = false := by decide) (hcd : (x == ("__classdict__" : Str)) = false := by decide)
    (hs : ∀ y, foldedSetIterable (.Name x p') X.env y = pure y := by intro _; rfl) (hts : ∀ t ∈ ts, t ∈ ownn.map (·.2) := by decide) : DE X c q (.ListComp elt [⟨tg, .Name x p', ifs, 0⟩] scope pos) (fLcK keysD i h ft fe (ownn.map (·.2))) :=
  de_lcW hk hc hN hqz (pi_keys (pe_var hy hv hdb hcd)) (keys_w hy) (fun d ds e => by
    unfold keysD at e
    split at e
    · exact .inl ⟨_, _, rfl⟩
    · exact .inr ⟨_, _, rfl⟩
    · cases e) ok hg ht he hs hts
end
end Pd
set_option Elab.async false
set_option linter.all false
set_option maxRecDepth 100000
set_option maxHeartbeats 4000000
namespace Pd
open PySem PySem.Spec PyProof.Rows L2
section
variable {X : Cx} {c : Cfg} {q q1 q2 qa : Q} {a b e : Expr} {es : List Expr} {p pos : Pos} {f fa fb : Env → R D} {fs : Env → R (List D)} {x : Str}
theorem de_repN (ha : DE X c q1 a fa) (hb : DE X c q2 b fb) : DE X c (.n []) (.BinOp a .Mult b pos) (fFr (f2 mulD fa fb)) :=
  PE.imp (pe_op op_rep ha hb) fun σ H P ⟨ρ, own, g, o⟩ => ⟨ρ, own, g, by
    unfold fFr f2 at o
    rw [bind_assoc3] at o
    exact outR.bind o fun d v H1 F hd s1 r1 k1 o1 => ⟨ρ, own, g.same s1, outR.bind (o1.later s1) fun e u H2 G he s2 r2 k2 o2 => by
      rw [he] at o1
      have o3 : outR c (.n []) σ H own (Rp c.cm) ((ofO (mulD d e)).bind chkL) P := o1
      have r1' := r1.same s2
      unfold mulD at o3
      split at o3
      · split at o3 <;> exact False.elim o3
      · obtain ⟨a1, vs, F', rfl, ha, rfl, ra⟩ := r1'.listed
        cases r2
        split at o3
        · rename_i hl
          obtain ⟨hi0, h0, h1, h2⟩ := hl
          obtain ⟨hi, o4⟩ := fr_out o3
          have hF := ra.imm hi0
          subst hF
          rw [← ra.length] at h2
          exact ⟨_, _, _, rfl, rfl, ha, by omega, by omega, Nat.le_trans h2 SZ_le, fun pp hp => fr_end g (s1.trans s2) hp (ra.rep _) hi o4⟩
        · exact False.elim o3
      · exact False.elim o3⟩⟩
end
end Pd
set_option Elab.async false
set_option linter.all false
set_option maxRecDepth 100000
set_option maxHeartbeats 4000000
namespace Pd
open PySem PySem.Spec PyProof.Rows L2
/-! ### what a name owns is given into what another owns -/
def mergeO (own : Ow) (i j : Nat) : Ow := fun k => if k = i then own i ++ own j else if k = j then [] else own k
section
variable {X : Cx} {c : Cfg} {q qa qb qk : Q} {a b e ek : Expr} {es : List Expr} {p p2 pos pos' apos cpos : Pos} {f fk fv : Env → R D} {fp : Env → R (List Nat)} {fs : Env → R (List D)} {σ : L2.St} {H H1 : Hp} {ρ : Env} {own : Ow} {i : Nat} {x : Str} {name : Str} {id : String} {s : List D → List D → Option (List D)}

theorem mem_merge {own : Ow} {i j k : Nat} {a : Addr} (h : a ∈ mergeO own i j k) : (k = i ∧ (a ∈ own i ∨ a ∈ own j)) ∨ (k ≠ i ∧ k ≠ j ∧ a ∈ own k) := by
  unfold mergeO at h
  split at h
  · exact .inl ⟨by assumption, List.mem_append.mp h⟩
  · split at h
    · cases h
    · exact .inr ⟨by assumption, by assumption, h⟩
theorem merge_some {own : Ow} {i j k : Nat} {a : Addr} (h : a ∈ mergeO own i j k) : ∃ m, a ∈ own m := by
  rcases mem_merge h with ⟨_, h | h⟩ | ⟨_, _, h⟩ <;> exact ⟨_, h⟩
theorem some_merge {own : Ow} {i j k : Nat} {a : Addr} (h : a ∈ own k) : ∃ m, a ∈ mergeO own i j m := by
  by_cases e : k = i
  · subst e; exact ⟨k, by unfold mergeO; rw [if_pos rfl]; exact List.mem_append_left _ h⟩
  · by_cases e2 : k = j
    · subst e2; exact ⟨i, by unfold mergeO; rw [if_pos rfl]; exact List.mem_append_right _ h⟩
    · exact ⟨k, by unfold mergeO; rw [if_neg e, if_neg e2]; exact h⟩
theorem Gd.merge {j : Nat} (g : Gd c σ H ρ own) (hij : j ≠ i) (hk : c.kd i = .m) (hj : j < ρ.length) : Gd c σ H ((ρ.set i none).set j none) (mergeO own i j) ∧ Ext H own H (mergeO own i j) := by
  have non : ∀ a, (∀ k, a ∉ own k) → ∀ k, a ∉ mergeO own i j k := fun a h k z => by
    obtain ⟨m, w⟩ := merge_some z
    exact h m w
  refine ⟨⟨by rw [List.length_set, List.length_set]; exact g.len, g.base, g.dom, fun k a h => ?_, fun k a h => ?_, fun k a h => ?_, fun k l a h h' => ?_, fun k hkl hz => ?_, ?_, fun a h => ⟨(g.lk a h).1, non a (g.lk a h).2⟩, fun k d hkd => ?_⟩, ⟨fun b o h _ => h, fun b _ h => non b h, fun b h => h⟩⟩
  · obtain ⟨m, w⟩ := merge_some h; exact g.ownB m a w
  · obtain ⟨m, w⟩ := merge_some h; exact g.ownN m a w
  · obtain ⟨m, w⟩ := merge_some h; exact g.ownM m a w
  · rcases mem_merge h with ⟨e1, h1⟩ | ⟨e1, f1, h1⟩ <;> rcases mem_merge h' with ⟨e2, h2⟩ | ⟨e2, f2, h2⟩
    · rw [e1, e2]
    · rcases h1 with h1 | h1
      · exact absurd (g.disj i l a h1 h2).symm e2
      · exact absurd (g.disj j l a h1 h2).symm f2
    · rcases h2 with h2 | h2
      · exact absurd (g.disj k i a h1 h2) e1
      · exact absurd (g.disj k j a h1 h2) f1
    · exact g.disj k l a h1 h2
  · rw [List.length_set, List.length_set] at hkl
    unfold mergeO
    rw [if_neg (fun e => by rw [e, hk] at hz; exact absurd hz (by decide))]
    split
    · rfl
    · exact g.zer k hkl hz
  · obtain ⟨N, h1, h2⟩ := g.sp
    rw [List.length_set, List.length_set]
    refine ⟨N + i + 1, by omega, fun k hkN => ?_⟩
    unfold mergeO
    rw [if_neg (by omega)]
    split
    · rfl
    · exact h2 k (by omega)
  · have kj : j ≠ k := fun e => by
      subst e
      rw [List.getElem?_set_self (by simpa using hj)] at hkd
      cases hkd
    rw [List.getElem?_set_ne kj] at hkd
    have ki : i ≠ k := fun e => by
      subst e
      by_cases hi : i < ρ.length
      · rw [List.getElem?_set_self hi] at hkd; cases hkd
      · rw [List.getElem?_eq_none (by simpa using hi)] at hkd; cases hkd
    rw [List.getElem?_set_ne ki] at hkd
    obtain ⟨v, F, h1, h2, h3⟩ := g.slot k d hkd
    have ok : mergeO own i j k = own k := by unfold mergeO; rw [if_neg (Ne.symm ki), if_neg (Ne.symm kj)]
    refine ⟨v, F, h1, h2, ?_⟩
    unfold SOk at h3 ⊢
    revert h3
    cases c.kd k with
    | z => exact fun h3 a ha => ⟨(h3 a ha).1, non a (h3 a ha).2⟩
    | l => exact fun h3 => ⟨fun a ha => ⟨(h3.1 a ha).1, non a (h3.1 a ha).2⟩, h3.2⟩
    | m => exact fun h3 => ⟨h3.1, h3.2.1.trans ok.symm, h3.2.2⟩
    | r => exact fun ⟨a, F3, e1, e2, e3, e4⟩ => ⟨a, F3, e1, e2, ok.trans e3, fun b hb => ⟨(e4 b hb).1, non b (e4 b hb).2⟩⟩
/-- the write, told at the part -/
theorem part_writeM {j : Nat} (hij : j ≠ i) (hj : j < ρ.length) (hkj : c.kd j = .m) {Hs : Hp} {d e' : D} {v : V} {pp : List Nat} {ad : Addr} {o' : HO} {A B G N FF : List Addr} (gd : Gd c σ Hs ρ own) (s : Same Hs H) (hk : c.kd i = .m) (hρ : ρ[i]? = some (some d)) (hσ : σ[i]? = some (some v))
    (so : SOk c own i v (A ++ (ad :: G) ++ B)) (rt : Rp c.cm H v d (A ++ (ad :: G) ++ B)) (hole : Hole c.cm H v d pp (.ref ad) A B) (hm : isMut o' = true) (hFF : QOk c (.n [j]) Hs own FF) (htr : ∀ b ∈ FF, H b ≠ none) (ch : Chg G FF N)
    (r' : (∀ b o, H b = some o → b ≠ ad → upd H ad o' b = some o) → Rp c.cm (upd H ad o') (.ref ad) e' (ad :: N)) : ∃ own', Gd c σ (upd H ad o') ((ρ.set i (some (putP d pp e'))).set j none) own' ∧ Ext Hs own (upd H ad o') own' := by
  unfold SOk at so
  rw [hk] at so
  obtain ⟨nd, ho, hpin⟩ := so
  have hi : i < ρ.length := (List.getElem?_eq_some_iff.mp hρ).1
  have hadm : ad ∈ A ++ (ad :: G) ++ B := by simp
  have fresh : ∀ b ∈ FF, Hs b = none ∨ b ∈ own j := fun b hb => (hFF.2 b hb).imp id fun ⟨k, z, w⟩ => by rw [List.mem_singleton.mp z] at w; exact w
  have old : ∀ b ∈ A ++ (ad :: G) ++ B, Hs b ≠ none := fun b hb => by
    obtain ⟨o, e1, _⟩ := gd.ownM i b (by rw [← ho]; exact hb)
    rw [e1]; exact Option.some_ne_none _
  obtain ⟨oad, head, hmad⟩ := (gd.same s).ownM i ad (by rw [← ho]; exact hadm)
  have nd1 := List.nodup_append.mp nd
  have nd2 := List.nodup_append.mp nd1.1
  have nd3 := List.nodup_cons.mp nd2.2.1
  have nadA : ad ∉ A := fun z => nd2.2.2 ad z ad List.mem_cons_self rfl
  have nadB : ad ∉ B := fun z => nd1.2.2 ad (by simp) ad z rfl
  have q := hole (upd H ad o') e' (ad :: N) (r' fun b o hb hne => by rw [upd_ne hne]; exact hb) fun b o hb z => by
    rw [upd_ne]
    · exact hb
    · intro e1
      subst e1
      rcases z with z | z
      · rcases List.mem_append.mp z with z | z
        · exact nadA z
        · exact nadB z
      · rw [head] at hb; cases hb; rw [z] at hmad; cases hmad
  have nold : ∀ b ∈ FF, b ∉ A ++ (ad :: G) ++ B := fun b hb z => (fresh b hb).elim (old b z) fun w => hij (gd.disj j i b w (by rw [← ho]; exact z))
  have nG : ∀ b ∈ FF, b ∉ G := fun b hb z => nold b hb (by simp [z])
  have memN : ∀ b ∈ N, b ∈ G ∨ b ∈ FF := ch.sub
  obtain ⟨g1, x1⟩ := gd.merge (i := i) (j := j) hij hk hj
  have e1i : (mergeO own i j) i = own i ++ own j := by unfold mergeO; rw [if_pos rfl]
  have lst : ∀ z : Option D, ((ρ.set i none).set j none).set i z = (ρ.set i z).set j none := fun z => by
    rw [List.set_comm _ _ hij, List.set_set, ← List.set_comm _ _ hij]
  suffices h : ∃ own', Gd c σ (upd H ad o') (((ρ.set i none).set j none).set i (some (putP d pp e'))) own' ∧ Ext Hs (mergeO own i j) (upd H ad o') own' by
    obtain ⟨own', h1, h2⟩ := h
    rw [lst] at h1
    exact ⟨own', h1, x1.trans h2⟩
  refine g1.writeM s hk (by simpa using hi) hσ hpin rfl (by rw [e1i, ← ho]; exact List.mem_append_left _ hadm) q hm ?_ fun b hb => ?_
  · have ndN : N.Nodup := ch.nd nd3.2 hFF.1 nG
    have adN : ad ∉ N := fun z => (memN ad z).elim nd3.1 fun w => nold ad w hadm
    refine List.nodup_append.mpr ⟨List.nodup_append.mpr ⟨nd2.1, List.nodup_cons.mpr ⟨adN, ndN⟩, fun a ha b hb e1 => ?_⟩, nd1.2.1, fun a ha b hb e1 => ?_⟩
    · subst e1
      rcases List.mem_cons.mp hb with hb | hb
      · subst hb; exact nadA ha
      · rcases memN a hb with w | w
        · exact nd2.2.2 a ha a (List.mem_cons_of_mem _ w) rfl
        · exact nold a w (by simp [ha])
    · subst e1
      rcases List.mem_append.mp ha with ha | ha
      · exact nd1.2.2 a (by simp [ha]) a hb rfl
      · rcases List.mem_cons.mp ha with ha | ha
        · subst ha; exact nadB hb
        · rcases memN a ha with w | w
          · exact nd1.2.2 a (by simp [w]) a hb rfl
          · exact nold a w (by simp [hb])
  · rw [e1i, ← ho]
    have inl : ∀ {b : Addr}, b ∈ A ++ (ad :: G) ++ B → b ∈ (A ++ (ad :: G) ++ B) ++ own j := fun z => List.mem_append_left _ z
    rcases List.mem_append.mp hb with hb | hb
    · rcases List.mem_append.mp hb with hb | hb
      · exact .inl (inl (by simp [hb]))
      · rcases List.mem_cons.mp hb with hb | hb
        · exact .inl (inl (by simp [hb]))
        · exact (memN b hb).elim (fun w => .inl (inl (by simp [w]))) fun w => (fresh b w).elim .inr fun z => .inl (List.mem_append_right _ z)
    · exact .inl (inl (by simp [hb]))

def sOpM (i : Nat) (fp : Env → R (List Nat)) (fs : Env → R (List D)) (s : List D → List D → Option (List D)) (j : Nat) : Env → SR := fun ρ => match fp ρ with
  | .ok p => match (curD i ρ).bind fun d => ofO ((subP d p).bind lstP) with
    | .ok ds => match fs ρ with
      | .ok as => match (curD i ρ).bind fun d => ofO ((s ds as).map fun ds' => putP d p (.lst ds')) with
        | .ok d' => if j < ρ.length then .nx ((ρ.set i (some d')).set j none) else .no
        | _ => .no
      | .exc x => .ex x ρ
      | .no => .no
    | _ => .no
  | _ => .no
theorem op_coreM {Dn : Ends} {j : Nat} (hij : j ≠ i) (hkj : c.kd j = .m) (hk : c.kd i = .m) (hh : rdS c (sOpM i fp fs s j) Dn σ H) : rdP c i fp σ H fun x H1 => tyV X.K "list" x H1 ∧ rdL c (.n [j]) fs σ H1 fun xs H2 => rOpL c s x xs H2 fun _ H3 => Dn.nx σ H3 := by
  obtain ⟨ρ, own, gd, o⟩ := hh
  refine ⟨ρ, own, gd, ?_⟩
  unfold sOpM at o
  cases hfp : fp ρ with
  | no => rw [hfp] at o; exact o
  | exc z => rw [hfp] at o; exact o
  | ok pp =>
  rw [hfp] at o
  intro H1 d e v v' A F' B s1 hρ hσ so rt hsub rv hole
  have cd : curD i ρ = .ok d := by unfold curD; rw [hρ]
  simp only [cd, R.bind_ok, hsub, Option.bind_some] at o
  cases e with
  | lst ds =>
    cases rv with
    | @lst ad vs _ G e1 rr =>
    refine ⟨.inl ⟨rfl, vs, .of e1⟩, ρ, own, gd.same s1, ?_⟩
    simp only [lstP, ofO] at o
    have o1 : outS c H own (match fs ρ with
      | .ok as => match ofO ((s ds as).map fun ds' => putP d pp (.lst ds')) with
        | .ok d' => if j < ρ.length then .nx ((ρ.set i (some d')).set j none) else .no
        | _ => .no
      | .exc x => .ex x ρ
      | .no => .no) Dn := o
    cases hfs : fs ρ with
    | no => rw [hfs] at o1; exact o1
    | exc z => rw [hfs] at o1; exact fun C dd H' e9 s9 => o1 C dd σ H' own e9 (gd.same (s1.trans s9)) (.ofSame (s1.trans s9))
    | ok as =>
    rw [hfs] at o1
    intro us H2 FF s2 ra ka
    cases hs : s ds as with
    | none => simp only [hs, Option.map_none, ofO] at o1; exact False.elim o1
    | some ds' =>
      simp only [hs, Option.map_some, ofO] at o1
      by_cases hjl : j < ρ.length
      case neg => rw [if_neg hjl] at o1; exact False.elim o1
      rw [if_pos hjl] at o1
      have s12 := s1.trans s2
      have ho' : QOk c (.n [j]) H own FF := ka.new s1
      refine ⟨ad, vs, ds, ds', as, G, FF, rfl, s2 _ _ e1, rr.same s2, ra, hs, fun ws N _ rw1 ch => ?_⟩
      have e1' := s2 _ _ e1
      have hadown : ad ∈ own i := by
        have so' := so
        unfold SOk at so'
        rw [hk] at so'
        rw [← so'.2.1]; simp
      have nad : ad ∉ G := by
        have so' := so
        unfold SOk at so'
        rw [hk] at so'
        exact (List.nodup_cons.mp (List.nodup_append.mp (List.nodup_append.mp so'.1).1).2.1).1
      have nFF : ad ∉ FF := fun z => by
        rcases ho'.2 ad z with this | ⟨k, w, this⟩
        · obtain ⟨o9, e9, _⟩ := gd.ownM i ad hadown
          rw [this] at e9; cases e9
        · rw [List.mem_singleton.mp w] at this
          exact hij (gd.disj j i ad this hadown)
      have nm : ∀ {b : Addr} {o : HO}, H2 b = some o → isMut o = false → b ≠ ad := fun hb hm e9 => by
        subst e9; rw [e1'] at hb; cases hb; cases hm
      obtain ⟨own', g', x'⟩ := part_writeM (e' := .lst ds') hij hjl hkj gd s12 hk hρ hσ so (rt.same s2) (hole.same s2) (o' := .lst ws) rfl ho' ra.trk ch fun keep => .lst upd_same (rw1.mono fun b o hb z => keep b o hb (z.elim (fun w e9 => by
        subst e9
        exact (ch.sub _ w).elim nad nFF) (nm hb)))
      exact o1 σ _ own' g' x'
  | _ => exact False.elim o
theorem ds_opM {j : Nat} (hij : j ≠ i) (hkj : c.kd j = .m) (hk : c.kd i = .m) (hm : OpL X c id s) (pa : PlainAttrs "list") (slot : Slot "list" name id) (hty : typeOf (.builtin id) = pure (.type "method_descriptor")) (ha : DP X c i a fp) (hes : DA X c (.n [j]) (e :: es) fs)
    (hbase : attributeBase a name X.env (eval a X.env) = eval a X.env := by rfl)
    (hfew : ((backTo cpos (starEach (e :: es) X.env)).all (fun x => !x.1) && (backToKw cpos (keywordEach [] X.env)).all (fun x => x.1.isSome)
      && decide ((e :: es).length + ([] : List Keyword).length + (if ([] : List Keyword).isEmpty then 0 else 1) < 30)) = true := by rfl)
    (hline : (apos.endLine == cpos.line) = true := by rfl) (hs : starEach (e :: es) X.env = (false, eval e X.env) :: starEach es X.env := by rfl) (hplain : (backTo cpos (starEach es X.env)).any (·.1) = false := by rfl)
    (hsw : swapsWith (.Call (.Attribute a name apos) (e :: es) [] cpos) none pos.line X.env = pure false := by rfl) : DS X c (.Expr (.Call (.Attribute a name apos) (e :: es) [] cpos) pos) (sOpM i fp fs s j) :=
  PS.imp (ps_expr (pe_bm pa slot hty hm ha hes hbase hfew hline hs hplain) hsw) fun D σ H h => op_coreM hij hkj hk h

/-- one name's whole value for arguments -/
theorem da_mv (j : Nat) (ha : DE X c (.n [j]) e f) (hs : starEach [e] X.env = (false, eval e X.env) :: starEach [] X.env := by rfl) : DA X c (.n [j]) [e] (fCons f fNil) := da_cons (Qj.n (S := [j]) (T := []) (fun _ _ h => nomatch h)) ha (da_nil (q := .n [])) hs
end
end Pd
set_option Elab.async false
set_option linter.all false
set_option maxRecDepth 100000
set_option maxHeartbeats 4000000
namespace Pd
open PySem PySem.Spec PyProof.Rows L2
/-! ### defs that write into their first value -/
inductive MX where
  | ok (d : D) (ρ : Env)
  | exc (x : Str) (ρ : Env)
  | no
section
variable {X : Cx} {c : Cfg} {q qa qb : Q} {e : Expr} {es : List Expr} {p pos pos' : Pos} {f : Env → R D} {fp : Env → R (List Nat)} {fs : Env → R (List D)} {σ : L2.St} {H H' H1 H2 : Hp} {ρ ρ' : Env} {own : Ow} {i k : Nat} {x : Str} {fM : Env → MX}
/-- many owned names' values changed at once -/
theorem Gd.multi (g : Gd c σ H ρ own) (M : Nat → Option D) (L : Nat → List Addr) (hl : ρ'.length = ρ.length) (hρ : ∀ i, ρ'[i]? = match M i with
      | some d => some (some d)
      | none => ρ[i]?)
    (keep : ∀ b o, H b = some o → (∀ i, M i ≠ none → b ∉ own i) → H' b = some o) (dom : ∀ b, H b ≠ none → H' b ≠ none)
    (hm : ∀ i d, M i = some d → c.kd i = .m ∧ ∃ v, σ[i]? = some (some v) ∧ Rp c.cm H' v d (L i) ∧ (L i).Nodup ∧ (∀ u, c.pin i = some u → v = u) ∧ ∀ a ∈ L i, (∃ j, M j ≠ none ∧ a ∈ own j) ∨ H a = none)
    (dj : ∀ i j a, M i ≠ none → M j ≠ none → a ∈ L i → a ∈ L j → i = j) (fin : ∃ N, ∀ i, N ≤ i → M i = none) :
    ∃ own', Gd c σ H' ρ' own' ∧ Ext H own H' own' ∧ ∀ i, own' i = if M i = none then own i else L i := by
  have mem : ∀ {j : Nat} {a : Addr}, a ∈ (fun j => if M j = none then own j else L j : Ow) j → (M j = none ∧ a ∈ own j) ∨ (M j ≠ none ∧ a ∈ L j) := fun {j a} h => by
    by_cases e : M j = none
    · exact .inl ⟨e, by simpa [e] using h⟩
    · exact .inr ⟨e, by simpa [e] using h⟩
  have LL : ∀ {j : Nat} {a : Addr}, M j ≠ none → a ∈ L j → (∃ k, M k ≠ none ∧ a ∈ own k) ∨ H a = none := fun {j a} hj ha => by
    cases e : M j with
    | none => exact absurd e hj
    | some d => obtain ⟨_, v, _, _, _, _, h⟩ := hm j d e; exact h a ha
  have old : ∀ {j : Nat} {a : Addr}, a ∈ own j → H a ≠ none := fun {j a} h e => by
    obtain ⟨o, e1, _⟩ := g.ownM j a h
    rw [e] at e1; cases e1
  have away : ∀ {j k : Nat} {a : Addr}, M j = none → a ∈ own j → M k ≠ none → a ∉ own k := fun {j k a} hj h hk z => by
    have := g.disj j k a h z
    subst this
    exact hk hj
  have notL : ∀ {j k : Nat} {a : Addr}, M j = none → a ∈ own j → M k ≠ none → a ∉ L k := fun {j k a} hj h hk z => by
    rcases LL hk z with ⟨m, hm1, hm2⟩ | w
    · exact away hj h hm1 hm2
    · exact old h w
  have non : ∀ {a : Addr}, (∀ j, a ∉ own j) → H a ≠ none → ∀ j, a ∉ (fun j => if M j = none then own j else L j : Ow) j := fun {a} hn ha j z => by
    rcases mem z with ⟨_, z⟩ | ⟨hj, z⟩
    · exact hn j z
    · rcases LL hj z with ⟨m, _, w⟩ | w
      · exact hn m w
      · exact ha w
  refine ⟨fun j => if M j = none then own j else L j, ⟨hl.trans g.len, fun b o h n => ?_, fun b h => dom b (g.dom b h), fun j a h => ?_, fun j a h => ?_, fun j a h => ?_, fun j l a h h' => ?_, fun j hj hz => ?_, ?_, fun a hk => ⟨dom a (g.lk a hk).1, non (g.lk a hk).2 (g.lk a hk).1⟩, fun j d hj => ?_⟩, ⟨fun b o h n => keep b o h fun j _ => n j, fun b h n => non n h, dom⟩, fun _ => rfl⟩
  · refine keep b o (g.base b o h n) fun j _ z => ?_
    rcases g.ownN j b z with w | w
    · rw [w] at h; cases h
    · exact n w
  · rcases mem h with ⟨_, z⟩ | ⟨hj, z⟩
    · exact g.ownB j a z
    · exact (LL hj z).elim (fun ⟨m, _, w⟩ => g.ownB m a w) fun w => g.newB w
  · rcases mem h with ⟨_, z⟩ | ⟨hj, z⟩
    · exact g.ownN j a z
    · exact (LL hj z).elim (fun ⟨m, _, w⟩ => g.ownN m a w) fun w => .inl (g.new w)
  · rcases mem h with ⟨hj, z⟩ | ⟨hj, z⟩
    · obtain ⟨o, e1, e2⟩ := g.ownM j a z
      exact ⟨o, keep a o e1 fun k hk => away hj z hk, e2⟩
    · cases e : M j with
      | none => exact absurd e hj
      | some d =>
        obtain ⟨_, v, _, r, _⟩ := hm j d e
        exact r.allMut a z ((LL hj z).elim (fun ⟨m, _, w⟩ => g.ownLk w) fun w => g.newLk w)
  · rcases mem h with ⟨e1, h1⟩ | ⟨e1, h1⟩ <;> rcases mem h' with ⟨e2, h2⟩ | ⟨e2, h2⟩
    · exact g.disj j l a h1 h2
    · exact absurd h2 (notL e1 h1 e2)
    · exact absurd h1 (notL e2 h2 e1)
    · exact dj j l a e1 e2 h1 h2
  · rw [hl] at hj
    show (if M j = none then own j else L j) = []
    cases e : M j with
    | none => rw [if_pos rfl]; exact g.zer j hj hz
    | some d =>
      have := (hm j d e).1
      rw [this] at hz; exact absurd hz (by decide)
  · obtain ⟨N, h1, h2⟩ := g.sp
    obtain ⟨N2, h3⟩ := fin
    refine ⟨N + N2, by omega, fun j hj => ?_⟩
    show (if M j = none then own j else L j) = []
    rw [if_pos (h3 j (by omega))]
    exact h2 j (by omega)
  · rw [hρ j] at hj
    cases e : M j with
    | some d' =>
      rw [e] at hj
      cases hj
      obtain ⟨hk, v, h1, h2, h3, h4, h5⟩ := hm j d e
      refine ⟨v, L j, h1, h2, ?_⟩
      unfold SOk
      rw [hk]
      exact ⟨h3, by simp [e], h4⟩
    | none =>
      rw [e] at hj
      have hj : ρ[j]? = some (some d) := hj
      obtain ⟨v, F, h1, h2, h3⟩ := g.slot j d hj
      have ok : (if M j = none then own j else L j) = own j := if_pos e
      have awayF : ∀ b ∈ F, ∀ k, M k ≠ none → b ∉ own k := fun b hb k hk z => by
        unfold SOk at h3
        revert h3
        cases c.kd j with
        | z => exact fun h3 => (h3 b hb).2 k z
        | l => exact fun h3 => (h3.1 b hb).2 k z
        | m => exact fun h3 => away e (by rw [← h3.2.1]; exact hb) hk z
        | r =>
          rintro ⟨a, F3, e1, e2, e3, e4⟩
          rw [e2] at hb
          rcases List.mem_cons.mp hb with w | w
          · exact away e (by rw [e3, w]; exact List.mem_cons_self) hk z
          · exact (e4 b w).2 k z
      refine ⟨v, F, h1, h2.mono fun b o eb z => keep b o eb fun k hk w => ?_, ?_⟩
      · rcases z with z | z
        · exact awayF b z k hk w
        · obtain ⟨o2, e2, m2⟩ := g.ownM k b w
          rw [eb] at e2; cases e2; rw [z] at m2; cases m2
      · unfold SOk at h3 ⊢
        revert h3
        cases c.kd j with
        | z => exact fun h3 a ha => ⟨(h3 a ha).1, non (h3 a ha).2 (h2.trk a ha)⟩
        | l => exact fun h3 => ⟨fun a ha => ⟨(h3.1 a ha).1, non (h3.1 a ha).2 (h2.trk a ha)⟩, h3.2⟩
        | m => exact fun h3 => ⟨h3.1, h3.2.1.trans ok.symm, h3.2.2⟩
        | r => exact fun ⟨a, F3, e1, e2, e3, e4⟩ => ⟨a, F3, e1, e2, ok.trans e3, fun b hb => ⟨(e4 b hb).1, non (e4 b hb).2 (h2.trk b (by rw [e2]; exact List.mem_cons_of_mem _ hb))⟩⟩
/-- an expression that may write into owned names -/
def rdM (c : Cfg) (f : Env → MX) : TE := fun σ H P => ∃ ρ own, Gd c σ H ρ own ∧ match f ρ with
  | .ok d ρ' => ∀ v H' own' G, Gd c σ H' ρ' own' → Ext H own H' own' → Rp c.cm H' v d G → G.Nodup → (∀ a ∈ G, c.B a ∧ (∀ j, a ∉ own' j) ∧ c.H0 a = none) → P v H'
  | .exc x ρ' => ∀ C dd H' own', ClX c.cm x C dd → Gd c σ H' ρ' own' → Ext H own H' own' → c.W (.ref C) dd σ H'
  | .no => False
abbrev DM (X : Cx) (c : Cfg) (e : Expr) (f : Env → MX) : Prop := PE X e (rdM c f)
/-! #### as statements -/
def sExpM (f : Env → MX) : Env → SR := fun ρ => match f ρ with
  | .ok _ ρ' => .nx ρ'
  | .exc x ρ' => .ex x ρ'
  | .no => .no
def sSetM (i : Nat) (f : Env → MX) : Env → SR := fun ρ => match f ρ with
  | .ok d ρ' => .nx (ρ'.set i (some d))
  | .exc x ρ' => .ex x ρ'
  | .no => .no
def sRetM (f : Env → MX) : Env → SR := fun ρ => match f ρ with
  | .ok d ρ' => .rt d ρ'
  | .exc x ρ' => .ex x ρ'
  | .no => .no
theorem ds_expM (he : DM X c e fM) (hs : swapsWith e none pos.line X.env = pure false) : DS X c (.Expr e pos) (sExpM fM) := PS.imp (ps_expr he hs) fun D σ H ⟨ρ, own, gd, o⟩ => ⟨ρ, own, gd, by
  unfold sExpM at o
  revert o
  cases fM ρ with
  | no => exact id
  | exc y ρ' => exact fun o C dd H' own' e g' x' => o C dd σ H' own' e g' x'
  | ok d ρ' => exact fun o v H' own' G g' x' r' nd k => o σ H' own' g' x'⟩
theorem ds_setM (hk : c.kd i = .z) (hN : X.N.Nodup) (hi : X.N[i]? = some x) (hx : Loc X.env.scope x) (he : DM X c e fM) (hs : swapsWith e (some (.Name x pos')) pos.line X.env = pure false) (hf : X.fn x = true ∨ X.env.scope.names.lookup x = some .local) :
    DS X c (.Assign [.Name x pos'] e pos) (sSetM i fM) := PS.imp (ps_set hN hi hx he hs hf) fun Dn σ H z => by
  obtain ⟨ρ, own, gd, o⟩ := z
  refine ⟨ρ, own, gd, ?_⟩
  unfold sSetM at o
  revert o
  cases fM ρ with
  | no => exact id
  | exc y ρ' => exact fun o C dd H' own' e g' x' => o C dd σ H' own' e g' x'
  | ok d ρ' => exact fun o v H' own' G g' x' r' nd k => o _ H' own' (g'.setz hk r' fun a ha => ⟨(k a ha).1, (k a ha).2.1⟩) x'
theorem ds_retM (he : DM X c e fM) : DS X c (.Return (some e) pos) (sRetM fM) := PS.imp (ps_ret he) fun D σ H ⟨ρ, own, gd, o⟩ => ⟨ρ, own, gd, by
  unfold sRetM at o
  revert o
  cases fM ρ with
  | no => exact id
  | exc y ρ' => exact fun o C dd H' own' e g' x' => o C dd σ H' own' e g' x'
  | ok d ρ' => exact fun o v H' own' G g' x' r' nd k => o v σ H' own' G g' x' r' (by
      unfold RQ
      split
      · exact ⟨nd, fun a ha => (k a ha).2.2, fun i _ a ha => (k a ha).2.1 i⟩
      · exact fun a ha => (k a ha).1)⟩
end
/-! ### what such a def promises -/
def spM (cm : Md) (n : Nat) (Fn : List D → MX) : Sp := fun vs H P E => vs.length = n ∧ (∀ a, cm.lk a → H a ≠ none) ∧ ∃ v0 vs' d0 F0 ds FF, vs = v0 :: vs' ∧ Rp cm H v0 d0 F0 ∧ F0.Nodup ∧ (∀ a ∈ F0, ¬ cm.lk a ∧ a ∉ FF) ∧ Rps cm H vs' ds FF ∧ match Fn (d0 :: ds) with
  | .ok d ρ' => ∀ v H' G L, (∀ b o, H b = some o → b ∉ F0 → H' b = some o) → (∀ b, H b ≠ none → H' b ≠ none) → (∀ e, ρ'[0]? = some (some e) → Rp cm H' v0 e L ∧ L.Nodup ∧ ∀ a ∈ L, a ∈ F0 ∨ H a = none) → Rp cm H' v d G → G.Nodup → (∀ a ∈ G, H a = none ∧ a ∉ L) → P v H'
  | .exc x ρ' => ∀ C dd H' L, ClX cm x C dd → (∀ b o, H b = some o → b ∉ F0 → H' b = some o) → (∀ b, H b ≠ none → H' b ≠ none) → (∀ e, ρ'[0]? = some (some e) → Rp cm H' v0 e L ∧ L.Nodup ∧ ∀ a ∈ L, a ∈ F0 ∨ H a = none) → E (.ref C) dd H'
  | .no => False
def callM (np n : Nat) (g : Env → SR) : List D → MX := fun ds => if ds.length = np then (match g (ds.map some ++ List.replicate (n - ds.length) none) with
  | .rt d ρ => .ok d ρ
  | .nx ρ => .ok .non ρ
  | .ex x ρ => .exc x ρ
  | _ => .no) else .no
def pin0 (v : V) (i : Nat) : Option V := match i with
  | 0 => some v
  | _ => none
section
variable {P : Program} {w : World} {K : PySem.W.Frag} {mg : Str → Option Value} {base : Heap}
abbrev mkCp (cm : Md) (kd : Nat → Kd) (A : Addr → Prop) (H0 : Hp) (io : Addr → Prop) (E : XK) (v0 : V) : Cfg := ⟨cm, kd, A, H0, io, fun cls d _ H => E cls d H, true, pin0 v0⟩
theorem spM_start {cm : Md} {kd : Nat → Kd} {n nN : Nat} {g : Env → SR} {vs : List V} {H : Hp} {P : VK} {E : XK} {N : List Str} (hN : N.length = nN) (hle : n ≤ nN) (hk0 : kd 0 = .m) (hkp : ∀ i, 0 < i → i < n → kd i = .z)
    (h : spM cm n (callM n nN g) vs H P E) : ∃ A io v0, rdS (mkCp cm kd A H io E v0) g { nx := fun _ H' => P .non H', rt := P } (L2.start N vs) H := by
  obtain ⟨hl, hlk, v0, vs', d0, F0, ds, FF, rfl, r0, nd, dF, r, h⟩ := h
  have hd := r.length
  have hlen : (d0 :: ds).length = n := by rw [List.length_cons, ← hd]; exact hl
  let own : Ow := fun i => if i = 0 then F0 else []
  have mem : ∀ {j : Nat} {a : Addr}, a ∈ own j → j = 0 ∧ a ∈ F0 := fun {j a} z => by
    by_cases e : j = 0
    · exact ⟨e, by simpa [own, e] using z⟩
    · simp [own, e] at z
  refine ⟨fun a => a ∈ F0 ∨ a ∈ FF, fun a => a ∈ F0, v0, (d0 :: ds).map some ++ List.replicate (nN - (d0 :: ds).length) none, own, ?_, ?_⟩
  · refine ⟨by unfold L2.start; simp [hN, hd], fun b o h _ => h, fun b h => h, fun j a z => .inl (.inl (mem z).2), fun j a z => .inr (mem z).2, fun j a z => r0.allMut a (mem z).2 (dF a (mem z).2).1, fun j k a z z' => (mem z).1.trans (mem z').1.symm, fun j hj hz => ?_, ⟨(((d0 :: ds).map some ++ List.replicate (nN - (d0 :: ds).length) none : List (Option D))).length + 1, Nat.le_succ _, fun j hj => ?_⟩, fun a hk => ⟨hlk a hk, fun j z => (dF a (mem z).2).1 hk⟩, fun i d hi => ?_⟩
    · show (if j = 0 then F0 else []) = []
      rw [if_neg (fun e => by subst e; have hz : (kd 0).still = true := hz; rw [hk0] at hz; exact absurd hz (by decide))]
    · show (if j = 0 then F0 else []) = []
      rw [if_neg (by omega)]
    · by_cases hlt : i < (d0 :: ds).length
      · rw [List.getElem?_append_left (by simpa using hlt), List.getElem?_map] at hi
        cases i with
        | zero =>
          cases hi
          refine ⟨v0, F0, ?_, r0, ?_⟩
          · unfold L2.start
            rw [List.getElem?_append_left (by simp), List.getElem?_map]
            rfl
          · unfold SOk
            rw [show (mkCp cm kd (fun a => a ∈ F0 ∨ a ∈ FF) H (fun a => a ∈ F0) E v0).kd 0 = .m from hk0]
            exact ⟨nd, rfl, fun u e => by cases e; rfl⟩
        | succ i =>
          rw [List.getElem?_cons_succ] at hi
          cases hx : ds[i]? with
          | none => rw [hx] at hi; cases hi
          | some d' =>
            rw [hx] at hi
            cases hi
            obtain ⟨v, G, h1, h2, h3⟩ := r.get hx
            refine ⟨v, G, ?_, h2, ?_⟩
            · unfold L2.start
              rw [List.getElem?_append_left (by simp at hlt ⊢; omega), List.getElem?_map, List.getElem?_cons_succ, h1]
              rfl
            · unfold SOk
              rw [show (mkCp cm kd (fun a => a ∈ F0 ∨ a ∈ FF) H (fun a => a ∈ F0) E v0).kd (i + 1) = .z from hkp (i + 1) (by omega) (by omega)]
              exact fun a ha => ⟨.inl (.inr (h3.subset ha)), fun j z => (dF a (mem z).2).2 (h3.subset ha)⟩
      · rw [List.getElem?_append_right (by simpa using hlt), List.getElem?_replicate] at hi
        split at hi <;> cases hi
  · have out : ∀ {σ' : L2.St} {H' : Hp} {ρ' : Env} {own' : Ow}, Gd (mkCp cm kd (fun a => a ∈ F0 ∨ a ∈ FF) H (fun a => a ∈ F0) E v0) σ' H' ρ' own' → (∀ b o, H b = some o → b ∉ F0 → H' b = some o) ∧ (∀ b, H b ≠ none → H' b ≠ none) ∧ (∀ e, ρ'[0]? = some (some e) → Rp cm H' v0 e (own' 0) ∧ (own' 0).Nodup ∧ ∀ a ∈ own' 0, a ∈ F0 ∨ H a = none) := fun {σ' H' ρ' own'} g' => ⟨fun b o e n => g'.base b o e n, fun b e => g'.dom b e, fun e he => by
      obtain ⟨v, F, h1, h2, h3⟩ := g'.slot 0 e he
      unfold SOk at h3
      rw [show (mkCp cm kd (fun a => a ∈ F0 ∨ a ∈ FF) H (fun a => a ∈ F0) E v0).kd 0 = .m from hk0] at h3
      obtain ⟨n1, n2, n3⟩ := h3
      have := n3 v0 rfl
      subst this
      rw [← n2]
      exact ⟨h2, n1, fun a ha => (g'.ownN 0 a (by rw [← n2]; exact ha)).symm⟩⟩
    have h : match callM n nN g (d0 :: ds) with
      | .ok d ρ' => ∀ v H' G L, (∀ b o, H b = some o → b ∉ F0 → H' b = some o) → (∀ b, H b ≠ none → H' b ≠ none) → (∀ e, ρ'[0]? = some (some e) → Rp cm H' v0 e L ∧ L.Nodup ∧ ∀ a ∈ L, a ∈ F0 ∨ H a = none) → Rp cm H' v d G → G.Nodup → (∀ a ∈ G, H a = none ∧ a ∉ L) → P v H'
      | .exc x ρ' => ∀ C dd H' L, ClX cm x C dd → (∀ b o, H b = some o → b ∉ F0 → H' b = some o) → (∀ b, H b ≠ none → H' b ≠ none) → (∀ e, ρ'[0]? = some (some e) → Rp cm H' v0 e L ∧ L.Nodup ∧ ∀ a ∈ L, a ∈ F0 ∨ H a = none) → E (.ref C) dd H'
      | .no => False := h
    unfold callM at h
    rw [if_pos hlen] at h
    revert h
    cases g ((d0 :: ds).map some ++ List.replicate (nN - (d0 :: ds).length) none) with
    | nx ρ' => exact fun h σ' H' own' g' x' => let ⟨a, b, c⟩ := out g'; h .non H' [] _ a b c .non List.nodup_nil (fun _ z => nomatch z)
    | bk ρ' => exact fun h => False.elim h
    | ct ρ' => exact fun h => False.elim h
    | rt d ρ' => exact fun h v σ' H' own' F g' x' r' rq => let ⟨a, b, c⟩ := out g'; h v H' F _ a b c r' rq.1 fun z hz => ⟨rq.2.1 z hz, rq.2.2 0 (fun w => nomatch w) z hz⟩
    | ex x ρ' => exact fun h C dd σ' H' own' e g' x' => let ⟨a, b, c⟩ := out g'; h C dd H' _ e a b c
    | no => exact fun h => False.elim h
/-- THE RULE for such a def -/
theorem fn_okM {x qual : Str} {params : Arguments} {body : List Stmt} {scope : Scope} {dvs : List V} {kws : List (Str × V)} {f : Addr} {fd : FuncData} {N ps : List Str} {k : Nat} {cm : Md} {g : Env → SR} {kd : Nat → Kd} (F : FunD K x qual params body scope dvs kws f fd) (S : FnScope N ps scope)
    (hk0 : kd 0 = .m) (hkp : ∀ i, i < ps.length → 0 < i → kd i = .z) (hle : ps.length ≤ N.length)
    (hb : ∀ (cdv : Value) (A : Around) (outer : List PySem.Env) (s : Shared) (H : Hp) (E : XK) (Ad : Addr → Prop) (H0 : Hp) (io : Addr → Prop) (v0 : V), Room k (A.deeper (envOfC qual scope s.heap.objs.size f cdv)) →
      DSs (cxOf (L2.CX P w) P w K mg base N qual scope f cdv A outer s H E) (mkCp cm kd Ad H0 io E v0) body g) : FnOk P w K mg base (L2.CX P w) (k + 1) f fd ps (spM cm ps.length (callM ps.length N.length g)) := by
  refine F.ok S (fun vs H P E h => h.1) fun cdv A outer s H vs P E hr h => ?_
  obtain ⟨A', io', v0, h6⟩ := spM_start (N := N) (kd := kd) rfl hle hk0 (fun i h1 h2 => hkp i h2 h1) h
  exact ⟨_, hb cdv A outer s H E A' H io' v0 hr, h6⟩
structure FDM (P : Program) (w : World) (K : PySem.W.Frag) (mg : Str → Option Value) (base : Heap) (cm : Md) (x : Str) (k : Nat) (ps : List Str) (np nN : Nat) (g : Env → SR) : Prop where
  ex : ∃ (fa : Addr) (fd : FuncData), mg x = some (.ref fa) ∧ PySem.W.keepIn K (.ref fa) = true ∧ Binds K fd ps [] ∧ ps.length = np ∧ FnOk P w K mg base (L2.CX P w) k fa fd ps (spM cm ps.length (callM np nN g))
end
end Pd
set_option Elab.async false
set_option linter.all false
set_option maxRecDepth 100000
set_option maxHeartbeats 4000000
namespace Pd
open PySem PySem.Spec PyProof.Rows L2
/-! ### calls of defs that write into their first value -/
def fCallM (Fn : List D → MX) (i : Nat) (fp : Env → R (List Nat)) (fs : Env → R (List D)) : Env → MX := fun ρ => match fp ρ with
  | .ok p => match (curD i ρ).bind fun d => ofO (subP d p) with
    | .ok e => match fs ρ with
      | .ok ds => match Fn (e :: ds) with
        | .ok d ρ1 => match (curD i ρ).bind fun d0 => (curD 0 ρ1).bind fun e' => .ok (putP d0 p e') with
          | .ok d' => .ok d (ρ.set i (some d'))
          | _ => .no
        | .exc x ρ1 => match (curD i ρ).bind fun d0 => (curD 0 ρ1).bind fun e' => .ok (putP d0 p e') with
          | .ok d' => .exc x (ρ.set i (some d'))
          | _ => .no
        | .no => .no
      | .exc x => .exc x ρ
      | .no => .no
    | _ => .no
  | _ => .no
section
variable {X : Cx} {c : Cfg} {q qa qb : Q} {e : Expr} {es : List Expr} {p p2 pos pos' : Pos} {f : Env → R D} {fp : Env → R (List Nat)} {fs : Env → R (List D)} {σ : L2.St} {H H' H1 H2 : Hp} {ρ ρ' : Env} {own : Ow} {i k k' : Nat} {x : Str} {fM : Env → MX} {Fn : List D → MX} {n : Nat} {P : VK}
theorem back_part {d0 e' : D} {v v' : V} {pp : List Nat} {A F' B L0 : List Addr} (gd : Gd c σ H ρ own) (s : Same H H2) (hk : c.kd i = .m) (hρ : ρ[i]? = some (some d0)) (hσ : σ[i]? = some (some v)) (so : SOk c own i v (A ++ F' ++ B)) (hole : Hole c.cm H2 v d0 pp v' A B)
    (keep : ∀ b o, H2 b = some o → b ∉ F' → H' b = some o) (dom : ∀ b, H2 b ≠ none → H' b ≠ none) (r' : Rp c.cm H' v' e' L0) (nd : L0.Nodup) (hL : ∀ a ∈ L0, a ∈ F' ∨ H2 a = none) :
    ∃ own', Gd c σ H' (ρ.set i (some (putP d0 pp e'))) own' ∧ Ext H own H' own' ∧ ∀ a, H2 a = none → a ∉ L0 → c.B a ∧ (∀ j, a ∉ own' j) ∧ c.H0 a = none := by
  unfold SOk at so
  rw [hk] at so
  obtain ⟨nd0, ho, hpin⟩ := so
  have hi : i < ρ.length := (List.getElem?_eq_some_iff.mp hρ).1
  have n1 := List.nodup_append.mp nd0
  have n2 := List.nodup_append.mp n1.1
  have old : ∀ b ∈ own i, H b ≠ none := fun b hb e => by
    obtain ⟨o, e1, _⟩ := gd.ownM i b hb
    rw [e] at e1; cases e1
  have fre : ∀ b, H2 b = none → H b = none := fun b hb => by
    cases e : H b with
    | none => rfl
    | some o => rw [s b o e] at hb; cases hb
  have notA : ∀ b ∈ A, b ∉ F' := fun b hb z => n2.2.2 b hb b z rfl
  have notB : ∀ b ∈ B, b ∉ F' := fun b hb z => n1.2.2 b (List.mem_append_right _ z) b hb rfl
  have inA : ∀ b ∈ A, b ∈ own i := fun b hb => by rw [← ho]; simp [hb]
  have inB : ∀ b ∈ B, b ∈ own i := fun b hb => by rw [← ho]; simp [hb]
  have inF : ∀ b ∈ F', b ∈ own i := fun b hb => by rw [← ho]; simp [hb]
  have AL : ∀ b ∈ A, b ∉ L0 := fun b hb z => (hL b z).elim (notA b hb) fun w => old b (inA b hb) (fre b w)
  have BL : ∀ b ∈ B, b ∉ L0 := fun b hb z => (hL b z).elim (notB b hb) fun w => old b (inB b hb) (fre b w)
  have rr := hole H' e' L0 r' fun b o hb z => keep b o hb (z.elim (fun w => (List.mem_append.mp w).elim (notA b) (notB b)) fun w u => by
    obtain ⟨o2, e2, m2⟩ := gd.ownM i b (inF b u)
    have := s b o2 e2
    rw [hb] at this; cases this; rw [w] at m2; cases m2)
  have ndL : (A ++ L0 ++ B).Nodup := List.nodup_append.mpr ⟨List.nodup_append.mpr ⟨n2.1, nd, fun a ha b hb e => by subst e; exact AL a ha hb⟩, n1.2.1, fun a ha b hb e => by
    subst e
    rcases List.mem_append.mp ha with w | w
    · exact n1.2.2 a (by simp [w]) a hb rfl
    · exact BL a hb w⟩
  obtain ⟨own', g', x', h'⟩ := gd.multi (H' := H') (ρ' := ρ.set i (some (putP d0 pp e'))) (fun j => if j = i then some (putP d0 pp e') else none) (fun _ => A ++ L0 ++ B) (by rw [List.length_set]) (fun j => by
      by_cases e : j = i
      · subst e; rw [List.getElem?_set_self hi]; simp
      · rw [List.getElem?_set_ne (Ne.symm e)]; simp [e])
    (fun b o hb n => keep b o (s b o hb) fun z => n i (by simp) (inF b z)) (fun b hb => dom b (fun z => hb (fre b z)))
    (fun j d hj => by
      by_cases e : j = i
      · subst e
        rw [if_pos rfl] at hj
        cases hj
        refine ⟨hk, v, hσ, rr, ndL, hpin, fun a ha => ?_⟩
        rcases List.mem_append.mp ha with w | w
        · rcases List.mem_append.mp w with w | w
          · exact .inl ⟨j, by simp, inA a w⟩
          · exact (hL a w).elim (fun u => .inl ⟨j, by simp, inF a u⟩) fun u => .inr (fre a u)
        · exact .inl ⟨j, by simp, inB a w⟩
      · rw [if_neg e] at hj; cases hj)
    (fun j l a hj hl _ _ => by
      have e1 : j = i := Classical.byContradiction fun e => hj (if_neg e)
      have e2 : l = i := Classical.byContradiction fun e => hl (if_neg e)
      rw [e1, e2]) ⟨i + 1, fun j hj => if_neg (by omega)⟩
  refine ⟨own', g', x', fun a ha hn => ⟨gd.newB (fre a ha), fun j z => ?_, gd.new (fre a ha)⟩⟩
  rw [h' j] at z
  by_cases e : j = i
  case neg =>
    rw [if_neg e, if_pos rfl] at z
    exact gd.newOwn (fre a ha) j z
  · rw [if_pos e, if_neg (fun w => nomatch w)] at z
    rcases List.mem_append.mp z with w | w
    · rcases List.mem_append.mp w with w | w
      · exact old a (inA a w) (fre a ha)
      · exact hn w
    · exact old a (inB a w) (fre a ha)
theorem call_coreM (hk : c.kd i = .m) (ln : ∀ ds, ds.length ≠ n → Fn ds = .no) (hh : rdM c (fCallM Fn i fp fs) σ H P) : rdP c i fp σ H fun y H1 => rdL c .z fs σ H1 fun vs H2 => spM c.cm n Fn (y :: vs) H2 P (WE c.W σ) := by
  obtain ⟨ρ, own, gd, o⟩ := hh
  refine ⟨ρ, own, gd, ?_⟩
  unfold fCallM at o
  cases hfp : fp ρ with
  | no => rw [hfp] at o; exact o
  | exc z => rw [hfp] at o; exact o
  | ok pp =>
  rw [hfp] at o
  intro H1 d0 e0 v v' A F' B s1 hρ hσ so rt hsub rv hole
  have cd : curD i ρ = .ok d0 := by unfold curD; rw [hρ]
  simp only [cd, R.bind_ok, hsub, ofO] at o
  refine ⟨ρ, own, gd.same s1, ?_⟩
  cases hfs : fs ρ with
  | no => rw [hfs] at o; exact o
  | exc z => rw [hfs] at o; exact fun C dd H' e9 s9 => o C dd H' own e9 (gd.same (s1.trans s9)) (.ofSame (s1.trans s9))
  | ok ds =>
  simp only [hfs] at o
  intro vs H2 FF s2 ra ka
  have s12 := s1.trans s2
  have g2 := gd.same s12
  have so' := so
  unfold SOk at so'
  rw [hk] at so'
  obtain ⟨nd0, ho, hpin⟩ := so'
  have inF : ∀ b ∈ F', b ∈ own i := fun b hb => by rw [← ho]; simp [hb]
  have len : (e0 :: ds).length = n := Classical.byContradiction fun z => by
    simp only [ln _ z] at o
  have lv : (v' :: vs).length = n := by rw [List.length_cons, ra.length]; exact len
  have ndF : F'.Nodup := (List.nodup_append.mp (List.nodup_append.mp nd0).1).2.1
  have main : spM c.cm n Fn (v' :: vs) H2 P (WE c.W σ) := by
    refine ⟨lv, fun a hl => (g2.lk a hl).1, v', vs, e0, F', ds, FF, rfl, rv.same s2, ndF, fun a ha => ⟨gd.ownLk (inF a ha), fun z => (ka a z).2 i (inF a ha)⟩, ra, ?_⟩
    cases hF : Fn (e0 :: ds) with
    | no => simp only [hF] at o
    | exc y ρ1 =>
      simp only [hF] at o
      intro C dd H' L0 ec keep dom out
      cases h0 : curD 0 ρ1 with
      | no => simp only [h0] at o; exact False.elim o
      | exc z => simp only [h0] at o; exact False.elim o
      | ok e' =>
        simp only [h0] at o
        have he : ρ1[0]? = some (some e') := by
          unfold curD at h0
          split at h0
          · cases h0; assumption
          · cases h0
        obtain ⟨r', nd, hL⟩ := out e' he
        obtain ⟨own', g', x', _⟩ := back_part (e' := e') gd s12 hk hρ hσ so (hole.same s2) keep dom r' nd hL
        exact o C dd H' own' ec g' x'
    | ok d ρ1 =>
      simp only [hF] at o
      intro u H' G L0 keep dom out rG ndG hG
      cases h0 : curD 0 ρ1 with
      | no => simp only [h0] at o; exact False.elim o
      | exc z => simp only [h0] at o; exact False.elim o
      | ok e' =>
        simp only [h0] at o
        have he : ρ1[0]? = some (some e') := by
          unfold curD at h0
          split at h0
          · cases h0; assumption
          · cases h0
        obtain ⟨r', nd, hL⟩ := out e' he
        obtain ⟨own', g', x', h'⟩ := back_part (e' := e') gd s12 hk hρ hσ so (hole.same s2) keep dom r' nd hL
        exact o u H' own' G g' x' rG ndG fun a ha => h' a (hG a ha).1 (hG a ha).2
  exact main
theorem ln_callM {np nN : Nat} {g : Env → SR} : ∀ ds, ds.length ≠ np → callM np nN g ds = .no := fun ds h => by unfold callM; rw [if_neg h]
theorem de_callM {ps : List Str} {np nN : Nat} {g : Env → SR} (F : FDM X.prog X.w X.K X.mg X.base c.cm x k ps np nN g) (hr : Room k' X.A) (hkk : k ≤ k') (tk : Takes X c.W) (hg : Gl X x) (ha : DP X c i e fp) (hes : DA X c .z es fs) (hk : c.kd i = .m := by rfl)
    (hdb : (x == ("__debug__" : Str)) = false := by decide) (he : starEach (e :: es) X.env = (false, eval e X.env) :: starEach es X.env := by rfl) (hpl : (backTo pos (starEach es X.env)).any (·.1) = false := by rfl) :
    DM X c (.Call (.Name x p) (e :: es) [] pos) (fCallM (callM np nN g) i fp fs) := by
  obtain ⟨fa, fd, h1, h2, h3, h4, h5⟩ := F.ex
  subst h4
  refine ⟨fun pins s σ H P I h => ?_⟩
  refine wpAny_Call_Name_kw (ld_glob I hg h1 ?_ hdb)
  have hh := call_coreM hk ln_callM h
  refine PySem.W.callWith_K (h₀ := X.base) I.ok.mod.kin h2 (thn ((pa_cons ha hes he).run pos pins s σ H (fun vs H2 => spM c.cm ps.length (callM ps.length nN g) vs H2 P (WE c.W σ)) I hh) fun us s1 ⟨vs, H1, I1, r, q1⟩ => ⟨I1.kIn, ?_⟩) he hpl
  have q2 : spM c.cm ps.length (callM ps.length nN g) (vs ++ []) H1 P (WE c.W σ) := by rw [List.append_nil]; exact q1
  exact run_d h5 (hr.mono hkk) h3 .nil (passAt tk σ) I1 r q2
/-! ### in short -/
theorem expM (he : DM X c e fM) (hs : swapsWith e none pos.line X.env = pure false := by rfl) : DS X c (.Expr e pos) (sExpM fM) := ds_expM he hs
theorem setM (i : Nat) (hN : X.N.Nodup) (he : DM X c e fM) (hk : c.kd i = .z := by rfl) (hi : X.N[i]? = some x := by rfl) (hx : Loc X.env.scope x := by first | exact Or.inl rfl | exact Or.inr rfl) (hs : swapsWith e (some (.Name x pos')) pos.line X.env = pure false := by rfl) (hf : X.fn x = true ∨ X.env.scope.names.lookup x = some .local := by first | exact Or.inl rfl | exact Or.inr rfl) :
    DS X c (.Assign [.Name x pos'] e pos) (sSetM i fM) := ds_setM hk hN hi hx he hs hf
theorem retM (he : DM X c e fM) : DS X c (.Return (some e) pos) (sRetM fM) := ds_retM he
end
end Pd
set_option Elab.async false
set_option linter.all false
set_option maxRecDepth 100000
set_option maxHeartbeats 4000000
namespace Pd
open PySem PySem.Spec PyProof.Rows L2
/-! ### for x in xs, xs owned, its items things that nobody can write -/
def Cfg.pinL (c : Cfg) (i : Nat) (v : V) : Cfg := { c with pin := fun k => if k = i then some v else c.pin k }
section
variable {X : Cx} {c : Cfg} {q qa : Q} {tg e iter : Expr} {st : Stmt} {a b sts body : List Stmt} {p pos : Pos} {f fe : Env → R D} {ft : Env → R Bool} {fi fs : Env → R (List D)} {σ σ' : L2.St} {H H1 : Hp} {ρ : Env} {own : Ow} {g g' : Env → SR}
  {h : D → Env → Option Env} {ts : List Nat} {i : Nat} {x : Str} {v : V}
theorem Gd.toPin (gd : Gd c σ H ρ own) (hk : c.kd i = .m) (hσ : σ[i]? = some (some v)) : Gd (c.pinL i v) σ H ρ own := by
  refine ⟨gd.len, gd.base, gd.dom, gd.ownB, gd.ownN, gd.ownM, gd.disj, gd.zer, gd.sp, gd.lk, fun j d hj => ?_⟩
  obtain ⟨v', F, h1, h2, h3⟩ := gd.slot j d hj
  refine ⟨v', F, h1, h2, ?_⟩
  by_cases e : j = i
  · subst e
    rw [hσ] at h1
    cases h1
    unfold SOk at h3 ⊢
    rw [show (c.pinL j v).kd j = .m from hk]
    rw [hk] at h3
    exact ⟨h3.1, h3.2.1, fun u hu => by
      have : (if j = j then some v else c.pin j) = some u := hu
      rw [if_pos rfl] at this
      exact Option.some.inj this⟩
  · have hp : (c.pinL i v).pin j = c.pin j := if_neg e
    unfold SOk at h3 ⊢
    rw [hp]
    exact h3
theorem Gd.unPin (gd : Gd (c.pinL i v) σ H ρ own) (hk : c.kd i = .m) (hv : ∀ u, c.pin i = some u → v = u) : Gd c σ H ρ own := by
  refine ⟨gd.len, gd.base, gd.dom, gd.ownB, gd.ownN, gd.ownM, gd.disj, gd.zer, gd.sp, gd.lk, fun j d hj => ?_⟩
  obtain ⟨v', F, h1, h2, h3⟩ := gd.slot j d hj
  refine ⟨v', F, h1, h2, ?_⟩
  by_cases e : j = i
  · subst e
    unfold SOk at h3 ⊢
    rw [show (c.pinL j v).kd j = .m from hk] at h3
    rw [hk]
    have e1 : v' = v := h3.2.2 v (if_pos rfl)
    subst e1
    exact ⟨h3.1, h3.2.1, hv⟩
  · have hp : (c.pinL i v).pin j = c.pin j := if_neg e
    unfold SOk at h3 ⊢
    rw [hp] at h3
    exact h3
theorem outS.toPin {r : SR} {Dn : Ends} (hk : c.kd i = .m) (hv : ∀ u, c.pin i = some u → v = u) (o : outS c H own r Dn) : outS (c.pinL i v) H own r Dn := by
  cases r with
  | nx ρ' => exact fun σ' H' own' g' x' => o σ' H' own' (g'.unPin hk hv) x'
  | bk ρ' => exact fun σ' H' own' g' x' => o σ' H' own' (g'.unPin hk hv) x'
  | ct ρ' => exact fun σ' H' own' g' x' => o σ' H' own' (g'.unPin hk hv) x'
  | rt d ρ' => exact fun v' σ' H' own' F g' x' r' rq => o v' σ' H' own' F (g'.unPin hk hv) x' r' (by
      unfold RQ at rq ⊢
      revert rq
      show (if c.fr = true then _ else _) → (if c.fr = true then _ else _)
      split
      · refine fun rq => ⟨rq.1, rq.2.1, fun j hj => rq.2.2 j ?_⟩
        show (if j = i then some v else c.pin j) ≠ none
        split
        · exact fun z => nomatch z
        · exact hj
      · exact id)
  | ex y ρ' => exact fun C dd σ' H' own' e g' x' => o C dd σ' H' own' e (g'.unPin hk hv) x'
  | no => exact False.elim o
open Classical in
/-- the list that is walked stays the same -/
noncomputable def keepL (i : Nat) (xs : List D) (g : Env → SR) : Env → SR := fun ρ => match g ρ with
  | .nx ρ2 => if ρ2[i]? = some (some (.lst xs)) then .nx ρ2 else .no
  | .ct ρ2 => if ρ2[i]? = some (some (.lst xs)) then .ct ρ2 else .no
  | r => r
noncomputable def sForM (i : Nat) (h : D → Env → Option Env) (g : Env → SR) : Env → SR := fun ρ => match curD i ρ with
  | .ok (.lst xs) => if immAll xs = true then forD h (keepL i xs g) xs ρ else .no
  | _ => .no
theorem ds_forM {p' : Pos} (hk : c.kd i = .m) (hN : X.N[i]? = some x) (hv : Vis X.env.scope x) (hdb : (x == ("__debug__" : Str)) = false) (hcd : (x == ("__classdict__" : Str)) = false) (hp : PassesOwn (model X.prog X.w) X.A X.env X.xe) (hc : X.calm = true)
    (hg : ∀ v, DG X (c.pinL i v) tg h ts) (hb : ∀ v, DSs X (c.pinL i v) body g) (hs : ∀ y, foldedSetIterable (.Name x p') X.env y = pure y) : DS X c (.For tg (.Name x p') body [] pos) (sForM i h g) := by
  refine ⟨fun pins s σ H Dn I ⟨ρ, own, gd, o⟩ => ?_⟩
  unfold sForM at o
  cases hc0 : curD i ρ with
  | no => rw [hc0] at o; exact False.elim o
  | exc z => rw [hc0] at o; exact False.elim o
  | ok d =>
    rw [hc0] at o
    have hρ : ρ[i]? = some (some d) := by
      unfold curD at hc0
      split at hc0
      · cases hc0; assumption
      · cases hc0
    cases d with
    | lst xs =>
      have o : outS c H own (if immAll xs = true then forD h (keepL i xs g) xs ρ else .no) Dn := o
      by_cases him : immAll xs = true
      case neg => rw [if_neg him] at o; exact False.elim o
      rw [if_pos him] at o
      obtain ⟨v, F, hσ, r, so⟩ := gd.slot i _ hρ
      have hpin : ∀ u, c.pin i = some u → v = u := by
        unfold SOk at so
        rw [hk] at so
        exact so.2.2
      cases r with
      | @lst ad vs _ G e1 rr =>
      have gp := gd.toPin hk hσ
      have op := o.toPin (i := i) (v := .ref ad) hk hpin
      refine (ps_for hp hc (wi := fun σ H Rr => ∃ a ys, σ[i]? = some (some (.ref a)) ∧ SqL X.K H a ys ∧ Rr (Itl X.K a) H) (pi_seq (pe_var hN hv hdb hcd) fun σ H Rr ⟨a, ys, q1, q2, q3⟩ => ⟨_, q1, a, rfl, .inl ⟨⟨ys, q2⟩, q3⟩⟩) (hg (.ref ad)) (hb (.ref ad)) hs).run pins s σ H Dn I ?_
      refine ⟨ad, vs, hσ, .of e1, ?_⟩
      have live : ∀ {σ' : L2.St} {H' : Hp} {ρi : Env} {own' : Ow}, Gd (c.pinL i (.ref ad)) σ' H' ρi own' → ρi[i]? = some (some (.lst xs)) → ∃ ws, SqL X.K H' ad ws ∧ ws.length = xs.length ∧ ∀ k y, xs[k]? = some y → ∃ w, ws[k]? = some w ∧ Rp c.cm H' w y [] := fun {σ' H' ρi own'} g' hρi => by
        obtain ⟨v', F', h1, h2, h3⟩ := g'.slot i _ hρi
        unfold SOk at h3
        rw [show (c.pinL i (.ref ad)).kd i = .m from hk] at h3
        have := h3.2.2 (.ref ad) (if_pos rfl)
        subst this
        cases h2 with
        | @lst _ ws _ G' e2 rr2 =>
        refine ⟨ws, .of e2, rr2.length, fun k y hy => ?_⟩
        have hG := rr2.imm him
        subst hG
        obtain ⟨w, G2, a1, a2, a3⟩ := rr2.get hy
        have := List.eq_nil_of_sublist_nil a3
        subst this
        exact ⟨w, a1, a2⟩
      refine ⟨fun k m σ' H' => m = xs.length - k ∧ k ≤ xs.length ∧ ∃ ρi own', Gd (c.pinL i (.ref ad)) σ' H' ρi own' ∧ ρi[i]? = some (some (.lst xs)) ∧ Ext H own H' own' ∧ outS (c.pinL i (.ref ad)) H' own' (forD h (keepL i xs g) (xs.drop k) ρi) Dn,
        ⟨xs.length, by simp, Nat.zero_le _, ρ, own, gp, hρ, .refl, op⟩, ?_⟩
      rintro k m σ3 H3 ⟨rfl, hk3, ρi, own3, g3, hi3, x3, o3⟩
      obtain ⟨ws, l1, l2, l3⟩ := live g3 hi3
      by_cases hlt : k < xs.length
      · obtain ⟨w, w1, w2⟩ := l3 k _ (List.getElem?_eq_getElem hlt)
        refine .inr ⟨⟨ws, w, l1, w1⟩, fun σ' H' => k + 1 ≤ xs.length ∧ ∃ ρi own', Gd (c.pinL i (.ref ad)) σ' H' ρi own' ∧ ρi[i]? = some (some (.lst xs)) ∧ Ext H own H' own' ∧ outS (c.pinL i (.ref ad)) H' own' (forD h (keepL i xs g) (xs.drop (k + 1)) ρi) Dn,
          fun σ' H' ⟨a1, a2⟩ => ⟨xs.length - (k + 1), by omega, rfl, a1, a2⟩, fun y H4 hy => ?_⟩
        obtain ⟨e4, hy⟩ := hy
        subst e4
        have ey := hy ws l1
        rw [w1] at ey
        cases ey
        rw [List.drop_eq_getElem_cons hlt] at o3
        unfold forD at o3
        cases hhd : h xs[k] ρi with
        | none => rw [hhd] at o3; exact False.elim o3
        | some ρ1 =>
          rw [hhd] at o3
          refine ⟨ρi, own3, xs[k], [], g3, w2, (fun _ z => nomatch z), ρ1, hhd, fun σ5 g5 _ => ⟨ρ1, own3, g5, ?_⟩⟩
          revert o3
          show outS (c.pinL i (.ref ad)) H4 own3 (match keepL i xs g ρ1 with
            | .nx ρ2 => forD h (keepL i xs g) (xs.drop (k + 1)) ρ2
            | .ct ρ2 => forD h (keepL i xs g) (xs.drop (k + 1)) ρ2
            | .bk ρ2 => .nx ρ2
            | .rt d ρ2 => .rt d ρ2
            | .ex x ρ2 => .ex x ρ2
            | .no => .no) Dn → _
          unfold keepL
          cases g ρ1 with
          | nx ρ2 =>
            by_cases e2 : ρ2[i]? = some (some (.lst xs))
            · simp only [if_pos e2]
              exact fun o4 σ' H' own' g' x' => ⟨hlt, ρ2, own', g', e2, x3.trans x', outS.later x' o4⟩
            · simp only [if_neg e2]
              exact fun z => False.elim z
          | ct ρ2 =>
            by_cases e2 : ρ2[i]? = some (some (.lst xs))
            · simp only [if_pos e2]
              exact fun o4 σ' H' own' g' x' => ⟨hlt, ρ2, own', g', e2, x3.trans x', outS.later x' o4⟩
            · simp only [if_neg e2]
              exact fun z => False.elim z
          | bk ρ2 => exact fun o => o
          | rt d ρ2 => exact fun o => o
          | ex y ρ2 => exact fun o => o
          | no => exact fun o => o
      · have hie : k = xs.length := by omega
        subst hie
        rw [List.drop_length] at o3
        exact .inl ⟨⟨ws, l1, Nat.le_of_eq l2⟩, o3 σ3 H3 own3 g3 .refl⟩
    | _ => exact False.elim o
theorem forM (i : Nat) {p' : Pos} (hp : PassesOwn (model X.prog X.w) X.A X.env X.xe) (hc : X.calm = true) (hg : ∀ v, DG X (c.pinL i v) tg h ts) (hb : ∀ v, DSs X (c.pinL i v) body g) (hk : c.kd i = .m := by rfl) (hN : X.N[i]? = some x := by rfl) (hv : Vis X.env.scope x := by first | exact Or.inl rfl | exact Or.inr (Or.inl rfl) | exact Or.inr (Or.inr rfl))
    (hdb : (x == ("__debug__" : Str)) = false := by decide) (hcd : (x == ("__classdict__" : Str)) = false := by decide) (hs : ∀ y, foldedSetIterable (.Name x p') X.env y = pure y := by intro _; rfl) : DS X c (.For tg (.Name x p') body [] pos) (sForM i h g) := ds_forM hk hN hv hdb hcd hp hc hg hb hs
end
end Pd
set_option Elab.async false
set_option linter.all false
set_option maxRecDepth 100000
set_option maxHeartbeats 4000000
namespace PySem.W
open Lean Elab Tactic Meta PySem PySem.Calls PyProof.Rows PyProof.V PySem.Spec
/-! == of dicts by tuples -/
section
variable {prog : Program} {w : World} {K : Type} [DecidableEq K] {knd : HeapKind prog w K} {A : Around} {E : Value → Shared → Prop} {s : Shared}
def prs (l : List (K × Addr × Value)) : List (K × Value) := l.map fun x => (x.1, x.2.2)
theorem prs_none {l : List (K × Addr × Value)} {k : K} (h : ∀ (j : Nat) (p : Addr × Value), l[j]? ≠ some (k, p)) : valueAt (prs l) k = none := by
  unfold valueAt prs
  rw [Option.map_eq_none_iff, List.find?_eq_none]
  intro x hx
  obtain ⟨y, hy, rfl⟩ := List.mem_map.mp hx
  obtain ⟨j, hj⟩ := List.getElem?_of_mem hy
  simp only [decide_eq_true_eq]
  intro e
  exact h j y.2 (by rw [hj, ← e])
theorem prs_some {l : List (K × Addr × Value)} {k : K} (hn : (l.map (·.1)).Nodup) {j : Nat} {p : Addr × Value} (h : l[j]? = some (k, p)) : valueAt (prs l) k = some p.2 := by
  induction l generalizing j with
  | nil => simp at h
  | cons x l ih =>
    unfold valueAt prs
    rw [List.map_cons] at hn
    obtain ⟨h1, h2⟩ := List.nodup_cons.mp hn
    cases j with
    | zero =>
      simp at h
      subst h
      simp
    | succ j =>
      have h' : l[j]? = some (k, p) := by simpa using h
      have hne : x.1 ≠ k := fun e => h1 (List.mem_map.mpr ⟨(k, p), List.mem_of_getElem? h', e.symm⟩)
      have := ih h2 h'
      unfold valueAt prs at this
      simpa [hne] using this
theorem keqH_samePairs {nm : String} {a b : Addr} {xs ys : List (K × Addr × Value)} {r : Bool} {Q : Bool → Shared → Prop} (ha : (a == sysModules) = false) (hb : (b == sysModules) = false) (hu : knd.room A)
    (da : s.heap.DictOfH knd a xs) (db : s.heap.DictOfH knd b ys) (hits : xs.length = ys.length → KeqHits A s (prs ys) (prs xs) r) (h : Q (xs.length == ys.length && r) s) :
    wpAny (model prog w) A (Builtin.Dict.samePairs nm a b) Q E s := by
  obtain ⟨oa, es, ep, hoa, _, hda, hea, hia, hna⟩ := da
  obtain ⟨ob, es', ep', hob, _, hdb, heb, hib, hnb⟩ := db
  have hla : xs.length = es.size := (size_of_entries hea).symm
  have hlb : ys.length = es'.size := (size_of_entries heb).symm
  rw [hla, hlb] at h
  unfold Builtin.Dict.samePairs Builtin.Dict.showsAll
  rw [if_neg (show ¬ (a == sysModules) = true by rw [ha]; exact Bool.false_ne_true), if_neg (show ¬ (b == sysModules) = true by rw [hb]; exact Bool.false_ne_true)]
  refine wpAny_bind (wpAny_pure (wpAny_bind (wpAny_pure ?_)))
  refine wpAny_bind (wpAny_dictEntries hoa hda ?_)
  dsimp only
  refine wpAny_bind (wpAny_dictEntries hob hdb ?_)
  by_cases hsz : es.size = es'.size
  case neg =>
    rw [if_pos (by simpa using hsz)]
    have hbf : (es.size == es'.size) = false := by simpa using hsz
    rw [hbf, Bool.false_and] at h
    exact wpAny_bind (wpAny_rule (wpAny_pure h))
  case pos =>
    have h' : Q r s := by simpa [hsz] using h
    have hits' := hits (by rw [hla, hlb]; exact hsz)
    rw [if_neg (by rw [hsz]; simp)]
    refine wpAny_bind (wpAny_dictEpoch hoa hda ?_)
    refine wpAny_bind ?_
    rw [Std.Legacy.Range.forIn_eq_forIn_range']
    simp only [Std.Legacy.Range.size, Nat.sub_zero, Nat.add_sub_cancel, Nat.div_one]
    refine wpAny_forIn_list _
      (fun rest q s' => s' = s ∧ q = (none, ()) ∧ ∃ i, rest = List.range' i (es.size - i) ∧ i ≤ es.size ∧ KeqHits A s (prs ys) (prs (xs.drop i)) r)
      _ ?_ ?_ _ _ ⟨rfl, rfl, 0, by simp, Nat.zero_le _, hits'⟩
    · rintro x rest q s' ⟨rfl, rfl, i, hr, hi, hpre⟩
      have hlt : i < es.size := by
        rcases Nat.lt_or_ge i es.size with h | h
        · exact h
        · rw [Nat.sub_eq_zero_of_le h] at hr; simp at hr
      obtain ⟨rfl, hrest⟩ : x = i ∧ rest = List.range' (i + 1) (es.size - (i + 1)) := by
        have e : es.size - i = (es.size - (i + 1)) + 1 := by omega
        rw [e, List.range'_succ] at hr
        injection hr with h1 h2
        exact ⟨h1, h2⟩
      refine wpAny_bind (wpAny_dictEntries hoa hda ?_)
      have hlt' : x < xs.length := by rw [hla]; exact hlt
      obtain ⟨k, a', v, hkv⟩ : ∃ k a' v, xs[x] = (k, a', v) := ⟨_, _, _, rfl⟩
      have hex : es[x]? = some (entryOfKey knd (k, a', v)) := by rw [entry_at hea, List.getElem?_eq_getElem hlt', hkv]; rfl
      rw [hex]
      have hdrop : xs.drop x = (k, a', v) :: xs.drop (x + 1) := by rw [← hkv]; exact List.drop_eq_getElem_cons hlt'
      rw [hdrop] at hpre
      have hpre : KeqHits A s' (prs ys) ((k, v) :: prs (xs.drop (x + 1))) r := hpre
      have hik : knd.is s'.heap k a' := by
        have := hia xs[x] (List.getElem_mem hlt')
        rw [hkv] at this
        exact this
      show wpAny _ _ (holding [Value.ref a', v] _ >>= _) _ _ _
      refine wpAny_bind (wpAny_holding (wpAny_bind (wpAny_dictFind_heap hu hik hob hdb heb hib hnb (fun hno => ?_) (fun j p hj => ?_))))
      · have hn : valueAt (prs ys) k = none := prs_none hno
        rcases hpre.inv with ⟨_, er⟩ | ⟨y, _, _, hy, _⟩
        · rw [er] at h'
          refine wpAny_pure ?_
          show wpAny _ _ (if (!false) = true then _ else _) _ _ _
          rw [if_pos (by decide)]
          exact wpAny_pure (wpAny_pure h')
        · rw [hn] at hy; exact nomatch hy
      · have hv' : valueAt (prs ys) k = some p.2 := prs_some hnb hj
        refine wpAny_bind (wpAny_dictEntries hob hdb ?_)
        have hey : es'[j]? = some (entryOfKey knd (k, p)) := by rw [entry_at heb, hj]; rfl
        rw [hey]
        rcases hpre.inv with ⟨hn, _⟩ | ⟨y, e, b', hy, he, hrr, er⟩
        · rw [hv'] at hn; exact nomatch hn
        · have ey : p.2 = y := Option.some.inj (hv'.symm.trans hy)
          rw [← ey] at he
          refine wpAny_holding (he prog w _ _ ?_)
          cases e with
          | false =>
            rw [er, Bool.false_and] at h'
            show wpAny _ _ (if (!false) = true then _ else _) _ _ _
            rw [if_pos (by decide)]
            exact wpAny_pure (wpAny_pure h')
          | true =>
            rw [Bool.true_and] at er
            rw [← er] at hrr
            show wpAny _ _ (if (!true) = true then _ else _) _ _ _
            rw [if_neg (by decide)]
            refine wpAny_bind (wpAny_dictEpoch hoa hda ?_)
            rw [if_neg (by simp)]
            exact wpAny_pure ⟨rfl, rfl, x + 1, hrest, hlt, hrr⟩
    · rintro q s' ⟨rfl, rfl, i, hr, hi, hpre⟩
      have hin : i = es.size := by
        rcases Nat.lt_or_ge i es.size with h | h
        · have e : es.size - i = (es.size - (i + 1)) + 1 := by omega
          rw [e, List.range'_succ] at hr; exact nomatch hr
        · exact Nat.le_antisymm hi h
      refine wpAny_pure ?_
      rw [hin, ← hla, List.drop_length] at hpre
      cases hpre
      exact h'
theorem keqH_eq {a b : Addr} {xs ys : List (K × Addr × Value)} {r : Bool} {Q : Value → Shared → Prop} (ha : (a == sysModules) = false) (hb : (b == sysModules) = false)
    (da : s.heap.DictOfH knd a xs) (db : s.heap.DictOfH knd b ys) (hr : knd.room A.in1) (hu : A.units < cLine) (hits : xs.length = ys.length → KeqHits A.in1 s (prs ys) (prs xs) r) (h : Q (.bool (xs.length == ys.length && r)) s) :
    wpAny (model prog w) A (compareOp .Eq (.ref a) (.ref b)) Q E s := by
  refine wpAny_richCompare_same_room (op := .Eq) da.typeIs db.typeIs PySem.F.slot_dict_eq (wpAny_call_entry PySem.F.slot_dict_eq da.typeIs PySem.F.entry_dict_eq ?_ (PySem.F.args_dict_eq_2 _ _)) hu
  show wpAny _ _ (Builtin.Dict.dictSlotArgs "__eq__" ⟨[.ref a, .ref b], []⟩ >>= _) _ _ s
  refine wpAny_bind ?_
  unfold Builtin.Dict.dictSlotArgs
  refine wpAny_bind (wpAny_notOrdered_dict da.typeIs ?_)
  show wpAny _ _ (pure (Value.ref a, Value.ref b)) _ _ s
  refine wpAny_pure ?_
  refine wpAny_bind (wpAny_isInstance (T := "dict") db.typeIs PySem.F.sub_dict_dict ?_)
  simp only [Bool.not_true, Bool.false_eq_true, if_false]
  refine wpAny_bind (wpAny_pure (wpAny_bind (wpAny_pure ?_)))
  refine wpAny_bind (keqH_samePairs ha hb hr da db hits ?_)
  refine wpAny_pure ⟨_, rfl, ?_, ?_⟩
  · exact fun x => nomatch x
  · simpa using h
theorem keqH_ne {a b : Addr} {xs ys : List (K × Addr × Value)} {r : Bool} {Q : Value → Shared → Prop} (ha : (a == sysModules) = false) (hb : (b == sysModules) = false)
    (da : s.heap.DictOfH knd a xs) (db : s.heap.DictOfH knd b ys) (hr : knd.room A.in1) (hu : A.units < cLine) (hits : xs.length = ys.length → KeqHits A.in1 s (prs ys) (prs xs) r) (h : Q (.bool (!(xs.length == ys.length && r))) s) :
    wpAny (model prog w) A (compareOp .NotEq (.ref a) (.ref b)) Q E s := by
  refine wpAny_richCompare_same_room (op := .NotEq) da.typeIs db.typeIs PySem.F.slot_dict_ne (wpAny_call_entry PySem.F.slot_dict_ne da.typeIs PySem.F.entry_dict_ne ?_ (PySem.F.args_dict_ne_2 _ _)) hu
  show wpAny _ _ (Builtin.Dict.dictSlotArgs "__ne__" ⟨[.ref a, .ref b], []⟩ >>= _) _ _ s
  refine wpAny_bind ?_
  unfold Builtin.Dict.dictSlotArgs
  refine wpAny_bind (wpAny_notOrdered_dict da.typeIs ?_)
  show wpAny _ _ (pure (Value.ref a, Value.ref b)) _ _ s
  refine wpAny_pure ?_
  refine wpAny_bind (wpAny_isInstance (T := "dict") db.typeIs PySem.F.sub_dict_dict ?_)
  simp only [Bool.not_true, Bool.false_eq_true, if_false]
  refine wpAny_bind (wpAny_pure (wpAny_bind (wpAny_pure ?_)))
  refine wpAny_bind (keqH_samePairs ha hb hr da db hits ?_)
  refine wpAny_pure ⟨_, rfl, ?_, ?_⟩
  · exact fun x => nomatch x
  · simpa using h

end
end PySem.W
set_option Elab.async false
set_option linter.all false
set_option maxRecDepth 100000
set_option maxHeartbeats 4000000
namespace Pd
open PySem PySem.Spec PyProof.Rows L2
open PySem.W (prs keqH_eq keqH_ne KeqHits)
/-! ### dicts by tuples, compared -/
def rowsEq {κ : Type} [DecidableEq κ] (ks' : List κ) (vs' : List D) : List κ → List D → Bool
  | k :: ks, v :: vs => (match lookK k ks' vs' with
    | some u => PyData.eqv (toP v) (toP u)
    | none => false) && rowsEq ks' vs' ks vs
  | _, _ => true
def eqT : D → D → Option Bool
  | .dT ks vs, .dT ks' vs' => if (shals vs 11 && shals vs' 11) = true then some (decide (ks.length = ks'.length) && rowsEq ks' vs' ks vs) else none
  | d, e => eqD d e
def neT : D → D → Option Bool
  | .dT ks vs, .dT ks' vs' => if (shals vs 11 && shals vs' 11) = true then some (!(decide (ks.length = ks'.length) && rowsEq ks' vs' ks vs)) else none
  | d, e => neD d e
theorem valueAt_prs {κ : Type} [DecidableEq κ] (l : List (κ × Addr × Value)) (k : κ) : valueAt (prs l) k = (atKey l k).map (·.2) := by
  unfold valueAt prs atKey
  induction l with
  | nil => rfl
  | cons x l ih =>
    simp only [List.map_cons, List.find?_cons]
    by_cases e : x.1 = k
    · simp [e]
    · simpa [e] using ih
theorem rows_hits {X : Cx} {pins : List (Addr × Obj)} {σ : L2.St} {H : Hp} {s : Shared} {A : Around} {cm : Md} (I : Inv X pins σ H s) (hu : A.units + 12 < cLine) {kvs' : List (List Key × V)} {xs' : List (List Key × Addr × Value)} {vs' : List D} {F' : List Addr} (kt' : KT H kvs' xs') (rr' : Rps cm H (kvs'.map (·.2)) vs' F') (hs' : shals vs' 11 = true) :
    ∀ {kvs : List (List Key × V)} {xs : List (List Key × Addr × Value)} {vs : List D} {F : List Addr}, KT H kvs xs → Rps cm H (kvs.map (·.2)) vs F → shals vs 11 = true → KeqHits A s (prs xs') (prs xs) (rowsEq (kvs'.map (·.1)) vs' (kvs.map (·.1)) vs) := by
  intro kvs xs vs F kt
  induction kt generalizing vs F with
  | nil => intro rr _; cases rr; exact .nil
  | @cons p q ps qs hq t ih =>
    intro rr hs
    cases rr with
    | @cons v vs0 d ds F1 G1 r1 r2 =>
    simp only [shals, Bool.and_eq_true] at hs
    have ih := ih r2 hs.2
    obtain ⟨e1, _, e3⟩ := hq
    obtain ⟨k, a', val⟩ := q
    have ek : p.1 = k := e1
    show KeqHits A s (prs xs') ((k, val) :: prs qs) ((match lookK p.1 (kvs'.map (·.1)) vs' with
      | some u => PyData.eqv (toP d) (toP u)
      | none => false) && rowsEq (kvs'.map (·.1)) vs' (ps.map (·.1)) ds)
    rw [ek]
    have kv := kt'.val k
    rw [← valueAt_prs] at kv
    cases hl : lookK k (kvs'.map (·.1)) vs' with
    | none =>
      have := rr'.noLook k hl
      rw [this] at kv
      simp only [Bool.false_and]
      refine .miss ?_
      cases hv : valueAt (prs xs') k with
      | none => rfl
      | some y => rw [hv] at kv; exact kv.elim
    | some u =>
      obtain ⟨v', G, g1, g2, _⟩ := rr'.look k hl
      rw [g1] at kv
      cases hv : valueAt (prs xs') k with
      | none => rw [hv] at kv; exact kv.elim
      | some y =>
        rw [hv] at kv
        refine .hit hv ?_ ih
        have su : shal u 11 = true := by
          have all := (shals_all (n := 11) vs').symm.trans hs'
          rw [List.all_eq_true] at all
          refine all u ?_
          have key : ∀ (ks : List (List Key)) (vs : List D), lookK k ks vs = some u → u ∈ vs := by
            intro ks
            induction ks with
            | nil => intro vs h; cases vs <;> cases h
            | cons j js ih2 =>
              intro vs h
              cases vs with
              | nil => cases h
              | cons d ds =>
                unfold lookK at h
                split at h
                · cases h; exact List.mem_cons_self
                · exact List.mem_cons_of_mem _ (ih2 ds h)
          exact key _ _ hl
        obtain ⟨as, t1⟩ := Dp.reads I _ _ _ (r1.dp hs.1) e3
        obtain ⟨bs, t2⟩ := Dp.reads I _ _ _ (g2.dp su) kv
        exact SeqAt.eqAt_plain _ _ A s _ _ as bs t1 t2 (shal_ok _ _ hs.1).1 (shal_ok _ _ su).1 (by have := (shal_ok _ _ hs.1).2; omega)
section
variable {X : Cx} {c : Cfg}
theorem cmd_eqT (hu : X.A.units + 64 < cLine) : CmD X c .Eq eqT := by
  intro pins s σ H x y v u P I rx ry h
  obtain ⟨d, e, F, G, r1, r2, b, h, q⟩ := h
  unfold eqT at h
  split at h
  · rename_i ks vs ks' vs'
    split at h
    · rename_i hs
      rw [Bool.and_eq_true] at hs
      cases h
      cases r1 with
      | dT a1 a2 a3 =>
      cases r2 with
      | dT b1 b2 b3 =>
      subst a2 b2
      cases (show v = Value.ref _ from rx)
      cases (show u = Value.ref _ from ry)
      obtain ⟨_, sa, xs, ka, da⟩ := dt_rd I.hok a1.rd
      obtain ⟨_, sb, ys, kb, db⟩ := dt_rd I.hok b1.rd
      have la := Paired.length ka
      have lb := Paired.length kb
      refine keqH_eq sa sb da db (show X.A.in1.units < cLine by show X.A.units + 1 < cLine; omega) (by omega) (fun _ => rows_hits I (A := X.A.in1) (by show X.A.units + 1 + 12 < cLine; omega) kb b3 hs.2 ka a3 hs.1) ?_
      refine ⟨.bl _, H, I, ?_, q⟩
      rw [← la, ← lb, List.length_map, List.length_map]
      rfl
    · cases h
  · exact cmd_eq (by omega) pins s σ H x y v u P I rx ry ⟨d, e, F, G, r1, r2, b, h, q⟩
theorem cmd_neT (hu : X.A.units + 64 < cLine) : CmD X c .NotEq neT := by
  intro pins s σ H x y v u P I rx ry h
  obtain ⟨d, e, F, G, r1, r2, b, h, q⟩ := h
  unfold neT at h
  split at h
  · rename_i ks vs ks' vs'
    split at h
    · rename_i hs
      rw [Bool.and_eq_true] at hs
      cases h
      cases r1 with
      | dT a1 a2 a3 =>
      cases r2 with
      | dT b1 b2 b3 =>
      subst a2 b2
      cases (show v = Value.ref _ from rx)
      cases (show u = Value.ref _ from ry)
      obtain ⟨_, sa, xs, ka, da⟩ := dt_rd I.hok a1.rd
      obtain ⟨_, sb, ys, kb, db⟩ := dt_rd I.hok b1.rd
      have la := Paired.length ka
      have lb := Paired.length kb
      refine keqH_ne sa sb da db (show X.A.in1.units < cLine by show X.A.units + 1 < cLine; omega) (by omega) (fun _ => rows_hits I (A := X.A.in1) (by show X.A.units + 1 + 12 < cLine; omega) kb b3 hs.2 ka a3 hs.1) ?_
      refine ⟨.bl _, H, I, ?_, q⟩
      rw [← la, ← lb, List.length_map, List.length_map]
      rfl
    · cases h
  · exact cmd_ne (by omega) pins s σ H x y v u P I rx ry ⟨d, e, F, G, r1, r2, b, h, q⟩
end
end Pd
set_option Elab.async false
set_option linter.all false
set_option maxRecDepth 100000
set_option maxHeartbeats 4000000
namespace Pd
open PySem PySem.Spec PyProof.Rows L2
/-! ### an owned name's value, lent: anybody may read it for the time of an expression -/
def Cfg.lendZ (c : Cfg) (i : Nat) : Cfg := { c with kd := fun k => if k = i then .z else c.kd k }
def Ow.less (own : Ow) (i : Nat) : Ow := fun k => if k = i then [] else own k
section
variable {X : Cx} {c : Cfg} {q qa qb qk : Q} {a b e ek : Expr} {es rest : List Expr} {p p2 pos pos' apos cpos : Pos} {f fk fv : Env → R D} {fp : Env → R (List Nat)} {fs : Env → R (List D)} {σ : L2.St} {H H1 : Hp} {ρ : Env} {own : Ow} {i : Nat} {x : Str} {fM : Env → MX}
theorem Ow.mem_less {j : Nat} {b : Addr} (h : b ∈ own.less i j) : j ≠ i ∧ b ∈ own j := by
  unfold Ow.less at h
  by_cases e : j = i
  · rw [if_pos e] at h; cases h
  · rw [if_neg e] at h; exact ⟨e, h⟩
theorem Gd.lendZ (g : Gd c σ H ρ own) (hk : c.kd i = .m) : Gd (c.lendZ i) σ H ρ (own.less i) where
  len := g.len
  base := g.base
  dom := g.dom
  ownB := fun j b h => g.ownB j b (Ow.mem_less h).2
  ownN := fun j b h => g.ownN j b (Ow.mem_less h).2
  ownM := fun j b h => g.ownM j b (Ow.mem_less h).2
  disj := fun j k b h h' => g.disj j k b (Ow.mem_less h).2 (Ow.mem_less h').2
  zer := fun j hj hs => by
    by_cases e : j = i
    · unfold Ow.less; rw [if_pos e]
    · unfold Ow.less
      rw [if_neg e]
      refine g.zer j hj ?_
      have hs : (if j = i then Kd.z else c.kd j).still = true := hs
      rwa [if_neg e] at hs
  sp := let ⟨N, h1, h2⟩ := g.sp; ⟨N, h1, fun j hj => by
    unfold Ow.less
    split
    · rfl
    · exact h2 j hj⟩
  lk := fun b h => ⟨(g.lk b h).1, fun j z => (g.lk b h).2 j (Ow.mem_less z).2⟩
  slot := fun j d hj => by
    obtain ⟨v, F, h1, h2, h3⟩ := g.slot j d hj
    refine ⟨v, F, h1, h2, ?_⟩
    by_cases e : j = i
    · subst e
      unfold SOk at h3 ⊢
      rw [hk] at h3
      rw [show (c.lendZ j).kd j = .z from if_pos rfl]
      exact fun b hb => ⟨g.ownB j b (by rw [← h3.2.1]; exact hb), fun k z => (Ow.mem_less z).1 (g.disj k j b (Ow.mem_less z).2 (by rw [← h3.2.1]; exact hb))⟩
    · unfold SOk at h3 ⊢
      rw [show (c.lendZ i).kd j = c.kd j from if_neg e]
      have oj : own.less i j = own j := if_neg e
      revert h3
      cases c.kd j with
      | z => exact fun h3 b hb => ⟨(h3 b hb).1, fun k z => (h3 b hb).2 k (Ow.mem_less z).2⟩
      | l => exact fun h3 => ⟨fun b hb => ⟨(h3.1 b hb).1, fun k z => (h3.1 b hb).2 k (Ow.mem_less z).2⟩, h3.2⟩
      | m => exact fun h3 => ⟨h3.1, h3.2.1.trans oj.symm, h3.2.2⟩
      | r => exact fun ⟨b, F2, e1, e2, e3, e4⟩ => ⟨b, F2, e1, e2, oj.trans e3, fun y hy => ⟨(e4 y hy).1, fun k z => (e4 y hy).2 k (Ow.mem_less z).2⟩⟩
theorem de_lend (i : Nat) (hk : c.kd i = .m) (h : DE X (c.lendZ i) (.n []) e f) : DE X c (.n []) e f := PE.imp h fun σ H P ⟨ρ, own, g, o⟩ => ⟨ρ, own.less i, g.lendZ hk, by
  revert o
  cases f ρ with
  | ok d => exact fun o v H' F s r k => o v H' F s r ⟨k.1, fun a ha => (k.2 a ha).imp id fun ⟨_, z, _⟩ => nomatch z⟩
  | exc y => exact id
  | no => exact id⟩
/-! ### f(x, ..) or y, f writing into x -/
def fMOr (fM : Env → MX) (f : Env → R D) : Env → MX := fun ρ => match fM ρ with
  | .ok d ρ' => match d with
    | .bl true => .ok (.bl true) ρ'
    | .bl false => match f ρ' with
      | .ok d => if imm d = true then .ok d ρ' else .no
      | .exc x => .exc x ρ'
      | .no => .no
    | _ => .no
  | .exc x ρ' => .exc x ρ'
  | .no => .no
theorem de_orM (ha : DM X c a fM) (hb : DE X c q (.BoolOp .Or (b :: rest) pos) f) : DM X c (.BoolOp .Or (a :: b :: rest) pos) (fMOr fM f) :=
  PE.imp (pe_or ha hb) fun σ H P ⟨ρ, own, g, o⟩ => ⟨ρ, own, g, by
    unfold fMOr at o
    cases hM : fM ρ with
    | no => rw [hM] at o; exact o
    | exc y ρ' => rw [hM] at o; exact o
    | ok d ρ' =>
      rw [hM] at o
      intro v H1 own1 G g1 x1 r1 nd k
      cases d with
      | bl t =>
        cases r1
        refine ⟨t, rfl, ?_⟩
        cases t with
        | true => rw [if_pos rfl]; exact o _ H1 own1 [] g1 x1 (.bl _) List.nodup_nil (fun _ z => nomatch z)
        | false =>
          rw [if_neg Bool.false_ne_true]
          refine ⟨ρ', own1, g1, ?_⟩
          cases hf : f ρ' with
          | no => simp only [hf] at o
          | exc y => simp only [hf] at o; exact fun C dd H' e s => o C dd H' own1 e (g1.same s) (x1.trans (.ofSame s))
          | ok d2 =>
            simp only [hf] at o
            intro v2 H2 F2 s2 r2 k2
            by_cases hi : imm d2 = true
            · rw [if_pos hi] at o
              have := r2.imm hi
              subst this
              exact o v2 H2 own1 [] (g1.same s2) (x1.trans (.ofSame s2)) r2 List.nodup_nil (fun _ z => nomatch z)
            · rw [if_neg hi] at o
              exact False.elim o
      | _ => exact False.elim o⟩
/-! ### d.clear() -/
theorem dT_clear {Q : Value → Shared → Prop} {E : Value → Shared → Prop} {A : Around} {pins : List (Addr × Obj)} {s : Shared} {ad : Addr} {kvs : List (List L2.Key × V)} (I : Inv X pins σ H s) (e : H ad = some (.dT kvs)) (h : ∀ s', Inv X pins σ (upd H ad (.dT [])) s' → Q .none s') :
    wpAny (model X.prog X.w) A (call (.builtin "dict.clear") [.ref ad]) Q E s := by
  obtain ⟨z, hd, xs, rel, o, es, ep, ho, hx, hdat, hes, _⟩ := dt_of I.hok e
  have hr0 : s.heap.DictRaw ad es ep := ⟨o, ho, hx, hdat⟩
  refine call_meetsIn PySem.F.slot_dict_clear hr0.typeIs PySem.F.entry_dict_clear (PySem.F.args_dict_clear_1 _) (meets_dict_clear_raw ad) ⟨es, ep, ⟨o, ho, hx, hdat⟩, ?_, fun h' hr hs => h _ ?_⟩
  · have : es.size = kvs.length := by
      rw [← Array.length_toList, hes, List.length_map, ← Paired.length rel]
    rw [this]; exact z
  · obtain ⟨o', ho', hx', hdat'⟩ := hr
    exact d_write (t' := s.toks) I (by rw [e]; exact True.intro) hs ⟨o', ho'⟩ ⟨Nat.zero_le _, hd, [], .nil, o', #[], ep + 1, ho', hx', hdat', rfl, List.nodup_nil⟩
def rClr : V → List V → Hp → VK → Prop := fun x vs H Q => ∃ a : Addr, x = .ref a ∧ vs = [] ∧ ((∃ kvs, H a = some (.dK kvs) ∧ Q .non (upd H a (.dK []))) ∨ ∃ kvs, H a = some (.dT kvs) ∧ Q .non (upd H a (.dT [])))
theorem mt_clr : MtR X "dict.clear" rClr := by
  intro pins s σ H x vs v us Q I rx rv h
  obtain ⟨a, ex, ev, h⟩ := h
  subst ex ev
  obtain rfl : v = Value.ref a := rx
  have hus := rv.zero
  subst hus
  rcases h with ⟨kvs, e, q⟩ | ⟨kvs, e, q⟩
  · exact d_clear I e fun s' I' => ⟨.non, _, I', rfl, q⟩
  · exact dT_clear I e fun s' I' => ⟨.non, _, I', rfl, q⟩
def clrD : D → Option D
  | .dK _ _ => some (.dK [] [])
  | .dT _ _ => some (.dT [] [])
  | _ => none
def sClr (i : Nat) (fp : Env → R (List Nat)) : Env → SR := fun ρ => match (fp ρ).bind fun p => (curD i ρ).bind fun d => ofO (((subP d p).bind clrD).map fun e => putP d p e) with
  | .ok d' => .nx (ρ.set i (some d'))
  | _ => .no
theorem clr_core {Dn : Ends} (hk : c.kd i = .m) (hh : rdS c (sClr i fp) Dn σ H) : tBM0 X.K "dict" rClr (rdP c i fp) σ H fun _ H3 => Dn.nx σ H3 := by
  obtain ⟨ρ, own, gd, o⟩ := hh
  refine ⟨ρ, own, gd, ?_⟩
  unfold sClr at o
  cases hfp : fp ρ with
  | no => rw [hfp] at o; exact o
  | exc z => rw [hfp] at o; exact o
  | ok pp =>
  rw [hfp] at o
  intro H1 d e v v' A F' B s1 hρ hσ so rt hsub rv hole
  have cd : curD i ρ = .ok d := by unfold curD; rw [hρ]
  simp only [R.bind_ok, cd, hsub, Option.bind_some] at o
  have own1 : ∀ b ∈ F', b ∈ own i := fun b hb => by
    have so' := so
    unfold SOk at so'
    rw [hk] at so'
    rw [← so'.2.1]; simp [hb]
  cases e with
  | dK ks vs =>
    cases rv with
    | @dK ad kvs _ _ G e1 e2 rr =>
      have e1' := e1.un (gd.ownLk (own1 ad List.mem_cons_self))
      refine ⟨.inr (.inr (.inl ⟨rfl, .inl ⟨kvs, e1'⟩⟩)), ad, rfl, rfl, .inl ⟨kvs, e1', ?_⟩⟩
      obtain ⟨own', g', x'⟩ := part_write (e' := .dK [] []) (N := []) gd s1 hk hρ hσ so rt hole (o' := .dK []) rfl (FF := []) .nil (fun _ z => nomatch z) (.subl (List.nil_sublist _)) fun keep => .dK (.inl upd_same) rfl .nil
      exact o σ _ own' g' x'
  | dT ks vs =>
    cases rv with
    | @dT ad kvs _ _ G e1 e2 rr =>
      have e1' := e1.un (gd.ownLk (own1 ad List.mem_cons_self))
      refine ⟨.inr (.inr (.inl ⟨rfl, .inr ⟨kvs, e1'⟩⟩)), ad, rfl, rfl, .inr ⟨kvs, e1', ?_⟩⟩
      obtain ⟨own', g', x'⟩ := part_write (e' := .dT [] []) (N := []) gd s1 hk hρ hσ so rt hole (o' := .dT []) rfl (FF := []) .nil (fun _ z => nomatch z) (.subl (List.nil_sublist _)) fun keep => .dT (.inl upd_same) rfl .nil
      exact o σ _ own' g' x'
  | _ => exact False.elim o
theorem ds_clr (ha : DP X c i a fp) (hk : c.kd i = .m := by rfl)
    (hbase : attributeBase a "clear" X.env (eval a X.env) = eval a X.env := by rfl) (hline : (apos.endLine == cpos.line) = true := by rfl)
    (hsw : swapsWith (.Call (.Attribute a "clear" apos) [] [] cpos) none pos.line X.env = pure false := by rfl) : DS X c (.Expr (.Call (.Attribute a "clear" apos) [] [] cpos) pos) (sClr i fp) :=
  PS.imp (ps_expr (pe_bm0 PySem.F.plainAttrs_dict PySem.F.slot_dict_clear PySem.F.type_dict_clear mt_clr ha hbase hline) hsw) fun Dn σ H h => clr_core hk h
end
end Pd
set_option Elab.async false
set_option linter.all false
set_option maxRecDepth 100000
set_option maxHeartbeats 4000000
namespace Pd
open PySem PySem.Spec PyProof.Rows L2
/-! ### the module's numbers -/
section
variable {X : Cx} {c : Cfg} {q : Q} {x : Str} {pos : Pos} {i : Int}
theorem gint (hm : ∃ t, X.mg x = some (.int i t)) (hg : Gl X x := by rfl) (hd : (x == ("__debug__" : Str)) = false := by decide) : DE X c q (.Name x pos) (fC (.int i)) := by
  obtain ⟨t, hm⟩ := hm
  exact de_c (pe_glob (v := .int i) hg hm ⟨t, rfl⟩ hd) fun _ => .int i
end
/-! ### own classes of exceptions -/
structure ExCls (K : PySem.W.Frag) (mg : Str → Option Value) (x : Str) : Prop where
  ex : ∃ C, mg x = some (.ref C) ∧ PySem.W.excIn K C He.veBase "ValueError.__new__" = true ∧ PySem.W.keepIn K (.ref C) = true ∧ PySem.W.subIn K (.ref C) (.type "BaseException") = some true ∧ PySem.W.typeIn K (.ref C) = some (.type "type")
/-- a class, as it is named -/
def ClsNm (mg : Str → Option Value) (z : Str) (v : V) (cv : Value) : Prop := ClsV v cv ∧ (mg z = some cv ∨ (mg z = none ∧ bootBuiltins z = some cv ∧ z ≠ "__name__"))
/-- the except clause of class z takes instances of these or not -/
structure CaTb (K : PySem.W.Frag) (mg : Str → Option Value) (z : Str) (l : List (Str × Bool)) : Prop where
  ex : ∃ cv, (mg z = some cv ∨ (mg z = none ∧ bootBuiltins z = some cv ∧ z ≠ "__name__")) ∧ ∀ y b C, l.lookup y = some b → mg y = some (.ref C) → PySem.W.exmOne K (.ref C) cv = some b
/-- isinstance of the class z says so of instances of these -/
structure IsTb (K : PySem.W.Frag) (mg : Str → Option Value) (z : Str) (l : List (Str × Bool)) : Prop where
  ex : ∃ v cv, ClsNm mg z v cv ∧ ∀ y b C, l.lookup y = some b → mg y = some (.ref C) → ExcC K C ∧ PySem.W.kitOne K (.ref C) cv = some b
theorem cmOf_cm {K : PySem.W.Frag} {mg : Str → Option Value} {lk : Addr → Prop} {y : Str} {C : Addr} (h : (cmOf K mg lk).cm y = some C) : mg y = some (.ref C) := by
  have h' : (match mg y with
    | some (.ref a) => some a
    | _ => none) = some C := h
  split at h'
  · rename_i a e
    cases h'
    exact e
  · cases h'
section
variable {X : Cx} {c : Cfg} {x m : Str} {p p2 pos pos' : Pos} {j : Nat}
theorem ds_raise (hE : ExCls X.K X.mg x) (tk : Takes X c.W) (hcm : ∀ C, X.mg x = some (.ref C) → c.cm.cm x = some C) (hc : X.calm = true := by rfl) (hg : Gl X x := by rfl) (hdb : (x == ("__debug__" : Str)) = false := by decide) :
    DS X c (.Raise (some (.Call (.Name x p) [.Constant (.str m) j p2] [] pos)) none pos') (sRaise x) := by
  obtain ⟨C, h1, h2, h3, h4, h5⟩ := hE.ex
  exact PS.imp (ps_raise hc tk (pmk_own PySem.F.excBase_ValueError h2 h1 h3 (raises_own h4 h5) hg hdb)) fun D σ H ⟨ρ, own, gd, o⟩ => o C none σ H own ⟨hcm C h1, rfl⟩ gd .refl
theorem cmOf_of {K : PySem.W.Frag} {mg : Str → Option Value} {lk : Addr → Prop} {y : Str} {C : Addr} (h : mg y = some (.ref C)) : (cmOf K mg lk).cm y = some C := by
  show (match mg y with
    | some (.ref a) => some a
    | _ => none) = some C
  rw [h]
end
/-! ### an exception held by a suite -/
def exMd (cm : Md) (a : Addr) (y : Str) : Md := ⟨cm.K, cm.cm, cm.lk, fun b z => cm.ex b z ∨ (b = a ∧ z = y)⟩
def Cfg.sui (c : Cfg) (a : Addr) (y : Str) : Cfg := { c with cm := exMd c.cm a y, W := fun _ _ _ _ => False }
mutual
def dryX : D → Bool
  | .tup xs => dryXs xs
  | .lst xs => dryXs xs
  | .fz xs => dryXs xs
  | .dK _ xs => dryXs xs
  | .dT _ xs => dryXs xs
  | .ins _ _ xs => dryXs xs
  | .exc _ => false
  | .non => true
  | .bl _ => true
  | .int _ => true
  | .str _ => true
def dryXs : List D → Bool
  | [] => true
  | d :: ds => dryX d && dryXs ds
end
section
variable {cm : Md} {H : Hp} {a : Addr} {y : Str}
mutual
theorem Rp.toEx {v : V} {d : D} {F : List Addr} : Rp cm H v d F → Rp (exMd cm a y) H v d F
  | .non => .non
  | .bl _ => .bl _
  | .int _ => .int _
  | .str _ => .str _
  | .tup e r => .tup e (Rps.toEx r)
  | .lst e r => .lst e (Rps.toEx r)
  | .frz e r => .frz e (Rps.toEx r)
  | .dK e h r => .dK e h (Rps.toEx r)
  | .dT e h r => .dT e h (Rps.toEx r)
  | .ins e h h' r => .ins e h h' (Rps.toEx r)
  | .exc e => .exc (.inl e)
theorem Rps.toEx {v : List V} {d : List D} {F : List Addr} : Rps cm H v d F → Rps (exMd cm a y) H v d F
  | .nil => .nil
  | .cons r s => .cons (Rp.toEx r) (Rps.toEx s)
end
mutual
theorem Rp.dryX (hx : ∀ a x, ¬ cm.ex a x) {v : V} {d : D} {F : List Addr} : Rp cm H v d F → dryX d = true
  | .non => rfl
  | .bl _ => rfl
  | .int _ => rfl
  | .str _ => rfl
  | .tup e r => by rw [Pd.dryX]; exact Rps.dryX hx r
  | .lst e r => by rw [Pd.dryX]; exact Rps.dryX hx r
  | .frz e r => by rw [Pd.dryX]; exact Rps.dryX hx r
  | .dK e h r => by rw [Pd.dryX]; exact Rps.dryX hx r
  | .dT e h r => by rw [Pd.dryX]; exact Rps.dryX hx r
  | .ins e h h' r => by rw [Pd.dryX]; exact Rps.dryX hx r
  | .exc e => absurd e (hx _ _)
theorem Rps.dryX (hx : ∀ a x, ¬ cm.ex a x) {v : List V} {d : List D} {F : List Addr} : Rps cm H v d F → dryXs d = true
  | .nil => rfl
  | .cons r s => by rw [Pd.dryXs, Rp.dryX hx r, Rps.dryX hx s]; rfl
end
mutual
theorem Rp.unEx {v : V} {d : D} {F : List Addr} : Rp (exMd cm a y) H v d F → Pd.dryX d = true → Rp cm H v d F
  | .non, _ => .non
  | .bl _, _ => .bl _
  | .int _, _ => .int _
  | .str _, _ => .str _
  | .tup e r, h => .tup e (Rps.unEx r (by rw [Pd.dryX] at h; exact h))
  | .lst e r, h => .lst e (Rps.unEx r (by rw [Pd.dryX] at h; exact h))
  | .frz e r, h => .frz e (Rps.unEx r (by rw [Pd.dryX] at h; exact h))
  | .dK e h' r, h => .dK e h' (Rps.unEx r (by rw [Pd.dryX] at h; exact h))
  | .dT e h' r, h => .dT e h' (Rps.unEx r (by rw [Pd.dryX] at h; exact h))
  | .ins e h1 h2 r, h => .ins e h1 h2 (Rps.unEx r (by rw [Pd.dryX] at h; exact h))
  | .exc e, h => by rw [Pd.dryX] at h; cases h
theorem Rps.unEx {v : List V} {d : List D} {F : List Addr} : Rps (exMd cm a y) H v d F → dryXs d = true → Rps cm H v d F
  | .nil, _ => .nil
  | .cons r s, h => by
    rw [Pd.dryXs, Bool.and_eq_true] at h
    exact .cons (Rp.unEx r h.1) (Rps.unEx s h.2)
end
end
section
variable {c : Cfg} {σ : L2.St} {H : Hp} {ρ ρ1 ρ' : Env} {own : Ow} {a : Addr} {y : Str} {i : Nat} {ws : List Nat}
theorem Gd.sui (g : Gd c σ H ρ own) : Gd (c.sui a y) σ H ρ own := ⟨g.len, g.base, g.dom, g.ownB, g.ownN, g.ownM, g.disj, g.zer, g.sp, g.lk, fun j d hj => let ⟨v, F, h1, h2, h3⟩ := g.slot j d hj; ⟨v, F, h1, h2.toEx, h3⟩⟩
theorem Gd.unsui (g : Gd (c.sui a y) σ H ρ own) (hn : ∀ (j : Nat) (d : D), ρ[j]? = some (some d) → dryX d = true) : Gd c σ H ρ own := ⟨g.len, g.base, g.dom, g.ownB, g.ownN, g.ownM, g.disj, g.zer, g.sp, g.lk, fun j d hj => let ⟨v, F, h1, h2, h3⟩ := g.slot j d hj; ⟨v, F, h1, h2.unEx (hn j d hj), h3⟩⟩
/-- the suite has written only these names, and nothing of the exception stays -/
def keptE (i : Nat) (ws : List Nat) (ρ1 ρ' : Env) : Prop := wipeE ρ' (i :: ws) = wipeE ρ1 (i :: ws) ∧ ∀ j ∈ ws, ∀ d, ρ'[j]? = some (some d) → dryX d = true
theorem wipeE_out : ∀ (ws : List Nat) (ρ : Env) (j : Nat), j ∉ ws → (wipeE ρ ws)[j]? = ρ[j]?
  | [], ρ, j, _ => rfl
  | v :: vs, ρ, j, h => by
    rw [List.mem_cons, not_or] at h
    show ((wipeE ρ vs).set v none)[j]? = _
    rw [List.getElem?_set_ne (Ne.symm h.1), wipeE_out vs ρ j h.2]
theorem keptE.dryX (k : keptE i ws ρ1 ρ') (hx : ∀ (j : Nat) (d : D), ρ1[j]? = some (some d) → Pd.dryX d = true) : ∀ (j : Nat) (d : D), (ρ'.set i none)[j]? = some (some d) → Pd.dryX d = true := fun j d h => by
  by_cases e : i = j
  · subst e
    by_cases hl : i < ρ'.length
    · rw [List.getElem?_set_self hl] at h; cases h
    · rw [List.getElem?_eq_none (by rw [List.length_set]; omega)] at h; cases h
  · rw [List.getElem?_set_ne e] at h
    by_cases hj : j ∈ ws
    · exact k.2 j hj d h
    · have nm : j ∉ i :: ws := by
        rw [List.mem_cons, not_or]; exact ⟨Ne.symm e, hj⟩
      have e1 := wipeE_out (i :: ws) ρ' j nm
      have e2 := wipeE_out (i :: ws) ρ1 j nm
      rw [k.1, e2] at e1
      exact hx j d (e1.trans h)
open Classical in
noncomputable def unSui (i : Nat) (ws : List Nat) (ρ1 : Env) (r : SR) : SR := match r with
  | .nx ρ' => if keptE i ws ρ1 ρ' then .nx (ρ'.set i none) else .no
  | .bk ρ' => if keptE i ws ρ1 ρ' then .bk (ρ'.set i none) else .no
  | .ct ρ' => if keptE i ws ρ1 ρ' then .ct (ρ'.set i none) else .no
  | .rt d ρ' => if keptE i ws ρ1 ρ' ∧ dryX d = true then .rt d (ρ'.set i none) else .no
  | .ex _ _ => .no
  | .no => .no
noncomputable def sTryAs (i : Nat) (ws : List Nat) (gb gs : Env → SR) (tk : Str → Option Bool) : Env → SR := fun ρ => match gb ρ with
  | .ex y ρ1 => (match tk y with
    | some true => unSui i ws ρ1 (gs (ρ1.set i (some (.exc y))))
    | some false => .ex y ρ1
    | none => .no)
  | .nx ρ' => .nx ρ'
  | .bk ρ' => .bk ρ'
  | .ct ρ' => .ct ρ'
  | .rt d ρ' => .rt d ρ'
  | .no => .no
end
def Cfg.wX (c : Cfg) (W : WX) : Cfg := { c with W := W }
theorem Gd.wX {c : Cfg} {σ : L2.St} {H : Hp} {ρ : Env} {own : Ow} {W : WX} (g : Gd c σ H ρ own) : Gd (c.wX W) σ H ρ own := ⟨g.len, g.base, g.dom, g.ownB, g.ownN, g.ownM, g.disj, g.zer, g.sp, g.lk, g.slot⟩
theorem Gd.unwX {c : Cfg} {σ : L2.St} {H : Hp} {ρ : Env} {own : Ow} {W : WX} (g : Gd (c.wX W) σ H ρ own) : Gd c σ H ρ own := ⟨g.len, g.base, g.dom, g.ownB, g.ownN, g.ownM, g.disj, g.zer, g.sp, g.lk, g.slot⟩
section
variable {X : Cx} {c : Cfg} {x n : Str} {i : Nat} {ws : List Nat} {body suite : List Stmt} {b₀ : Stmt} {np pos pos' : Pos} {gb gs : Env → SR} {l : List (Str × Bool)}
theorem ds_try (hT : CaTb X.K X.mg x l) (hcm : ∀ y C, c.cm.cm y = some C → X.mg y = some (.ref C)) (hx0 : ∀ a z, ¬ c.cm.ex a z) (hk : c.kd i = .z)
    (hs : X.stack = X.env :: X.outer) (hf : X.env.frame = some X.env.locals) (hN : X.N.Nodup) (hi : X.N[i]? = some n) (hln : X.env.kindOf n = some .local) (hg : Gl X x) (hdb : (x == ("__debug__" : Str)) = false) (tk : Takes X c.W)
    (hb : ∀ (W : WX) (pn : List (Addr × Obj)) (xe : Value → Shared → Prop), Takes (X.tr pn xe) W → PassesOwn (model X.prog X.w) X.A X.env xe → DSs (X.tr pn xe) (c.wX W) body gb)
    (hsu : ∀ (a : Addr) (y : Str) (oe : Obj) (C : Addr) (pn : List (Addr × Obj)), Zc (.ref C) none oe → (∃ vs, oe.data = .fields vs) → X.mg y = some (.ref C) → DSs (X.suite a ((a, oe) :: pn)) (c.sui a y) (b₀ :: suite) gs) :
    DS X c (.Try body [.ExceptHandler (some (.Name x np)) (some n) (b₀ :: suite) pos'] [] [] pos) (sTryAs i ws gb gs fun y => l.lookup y) := by
  obtain ⟨cv, hcv, hl⟩ := hT.ex
  refine PS.imp (ps_try_as (tb := fun W => rdS (c.wX W) gb) (ts := fun a cls d Dn σ H => ∃ y C, cls = .ref C ∧ d = none ∧ X.mg y = some (.ref C) ∧ rdS (c.sui a y) gs Dn σ H) hs hf hN hi hln (⟨hg, hdb, hcv⟩ : Names X x cv) tk hb
    fun a oe cls d pn hz hfs => ⟨fun pins s σ H Dn I ⟨y, C, e1, e2, hm, z⟩ => by
      subst e1 e2
      exact (hsu a y oe C pn hz hfs hm).run pins s σ H Dn I z⟩) fun Dn σ H ⟨ρ, own, gd, o⟩ => ⟨ρ, own, gd.wX, ?_⟩
  unfold sTryAs at o
  revert o
  cases gb ρ with
  | nx ρ' => exact fun o σ' H' own' g' x' => o σ' H' own' g'.unwX x'
  | bk ρ' => exact fun o σ' H' own' g' x' => o σ' H' own' g'.unwX x'
  | ct ρ' => exact fun o σ' H' own' g' x' => o σ' H' own' g'.unwX x'
  | rt d ρ' => exact fun o v σ' H' own' F g' x' r' k' => o v σ' H' own' F g'.unwX x' r' k'
  | no => exact fun o => o
  | ex y ρ1 =>
    intro o C dd σ' H' own' e g' x'
    have g1 : Gd c σ' H' ρ1 own' := g'.unwX
    obtain ⟨e1, e2⟩ := e
    subst e2
    have hm := hcm y C e1
    have o : outS c H own (match l.lookup y with
      | some true => unSui i ws ρ1 (gs (ρ1.set i (some (.exc y))))
      | some false => .ex y ρ1
      | none => .no) Dn := o
    revert o
    cases ht : l.lookup y with
    | none => exact fun o => False.elim o
    | some b =>
      have hex := hl y b C ht hm
      cases b with
      | false => exact fun o => ⟨false, hex, (fun z => nomatch z), fun _ => o C none σ' H' own' ⟨e1, rfl⟩ g1 x'⟩
      | true =>
        refine fun o => ⟨true, hex, fun _ a na => ⟨y, C, rfl, rfl, hm, ρ1.set i (some (.exc y)), own', (g1.sui (a := a) (y := y)).setz hk (.exc (.inr ⟨rfl, rfl⟩)) (fun _ z => nomatch z), ?_⟩, fun z => nomatch z⟩
        have hx1 : ∀ (j : Nat) (d : D), ρ1[j]? = some (some d) → dryX d = true := fun j d hj => let ⟨_, _, _, r, _⟩ := g1.slot j d hj; r.dryX hx0
        have o : outS c H own (unSui i ws ρ1 (gs (ρ1.set i (some (.exc y))))) Dn := o
        revert o
        unfold unSui
        have nxt : ∀ {ρ' : Pd.Env} {σ2 : L2.St} {H2 : Hp} {own2 : Ow}, keptE i ws ρ1 ρ' → Gd (c.sui a y) σ2 H2 ρ' own2 → Gd c (σ2.set i none) H2 (ρ'.set i none) own2 := fun k g2 => Gd.unsui (a := a) (y := y) g2.wipe1 (k.dryX hx1)
        cases gs (ρ1.set i (some (.exc y))) with
        | no => exact id
        | ex z ρ' => exact fun o => False.elim o
        | nx ρ' =>
          intro o
          dsimp only at o
          split at o
          · rename_i k
            exact fun σ2 H2 own2 g2 x2 => o (σ2.set i none) H2 own2 (nxt k g2) (x'.trans x2)
          · exact False.elim o
        | bk ρ' =>
          intro o
          dsimp only at o
          split at o
          · rename_i k
            exact fun σ2 H2 own2 g2 x2 => o (σ2.set i none) H2 own2 (nxt k g2) (x'.trans x2)
          · exact False.elim o
        | ct ρ' =>
          intro o
          dsimp only at o
          split at o
          · rename_i k
            exact fun σ2 H2 own2 g2 x2 => o (σ2.set i none) H2 own2 (nxt k g2) (x'.trans x2)
          · exact False.elim o
        | rt d ρ' =>
          intro o
          dsimp only at o
          split at o
          · rename_i k
            exact fun v σ2 H2 own2 F g2 x2 r2 k2 => o v (σ2.set i none) H2 own2 F (nxt k.1 g2) (x'.trans x2) (r2.unEx k.2) k2
          · exact False.elim o
end
end Pd
set_option Elab.async false
set_option linter.all false
set_option maxRecDepth 100000
set_option maxHeartbeats 4000000
namespace Pd
open PySem PySem.Spec PyProof.Rows L2
/-! ### isinstance of an exception that the suite holds -/
def rIsX (X : Cx) : List V → Hp → VK → Prop := fun xs H Q => ∃ (a D : Addr) (oe : Obj) (c : V) (cv : Value) (b : Bool), xs = [.ref a, c] ∧ (a, oe) ∈ X.pn ∧ Zc (.ref D) none oe ∧ (∃ vs, oe.data = .fields vs) ∧ ExcC X.K D ∧ ClsV c cv ∧ PySem.W.kitOne X.K (.ref D) cv = some b ∧ Q (.bl b) H
theorem call_isX {X : Cx} : CallR X (.builtin "isinstance") (rIsX X) := by
  intro pins s σ H xs us Q I r h
  obtain ⟨a, D, oe, c, cv, b, rfl, hp, hz, hf, C, hcv, e, q⟩ := h
  obtain ⟨u1, u2, rfl, rx, rt⟩ := vals2 r
  cases rx
  have ec := hcv.eq rt
  subst ec
  obtain ⟨hget, _⟩ := I.pin (a, oe) (List.mem_append.mpr (.inl hp))
  obtain ⟨vs, hv⟩ := hf
  have J : PySem.W.InstAt s.heap a oe D none := by
    obtain ⟨oc, od, oda, osl⟩ := oe
    obtain ⟨h1, h2⟩ := hz
    dsimp only at h1 h2 hv
    subst h1 h2 hv
    exact ⟨hget, rfl, rfl, trivial⟩
  exact PySem.W.kia_one (PySem.W.handS_kitx_exc C.hg C.hk C.hs C.hd C.ha C.hn C.ht C.hm) I.kIn J e (fun z => nomatch z) fun tk => ⟨.bl b, H, I.kept (t' := tk) fun _ _ z => z, rfl, q⟩
def fIsX (i : Nat) (tb : Str → Option Bool) : Env → R D := fun ρ => match ρ[i]? with
  | some (some (.exc y)) => (match tb y with
    | some b => .ok (.bl b)
    | none => .no)
  | _ => .no
section
variable {X : Cx} {c : Cfg} {q qe : Q} {x n z : Str} {i : Nat} {ws : List Nat} {body suite : List Stmt} {b₀ : Stmt} {e : Expr} {np p p1 p2 pos pos' : Pos} {gb gs : Env → SR} {f : Env → R D} {l : List (Str × Bool)} {a C : Addr} {oe : Obj} {y : Str}
theorem de_isX (hT : IsTb X.K X.mg z l) (hp : (a, oe) ∈ X.pn) (hex : ∀ b w, c.cm.ex b w → b = a ∧ w = y) (hz : Zc (.ref C) none oe) (hf : ∃ vs, oe.data = .fields vs) (hm : X.mg y = some (.ref C)) (he : DE X c qe e (fVar i))
    (hg : Gl X "isinstance") (hmi : X.mg "isinstance" = none) (hgz : Gl X z) (hdz : (z == ("__debug__" : Str)) = false)
    (hs : starEach [e, .Name z p2] X.env = (false, eval e X.env) :: starEach [.Name z p2] X.env) (hs2 : starEach [.Name z p2] X.env = (false, eval (.Name z p2) X.env) :: starEach [] X.env) (hpl : (backTo pos (starEach [.Name z p2] X.env)).any (·.1) = false) :
    DE X c q (.Call (.Name "isinstance" p) [e, .Name z p2] [] pos) (fIsX i fun y => l.lookup y) := by
  obtain ⟨v, cv, ⟨hv, hcv⟩, hl⟩ := hT.ex
  have rv : RelV v cv := by cases hv <;> rfl
  have pz : PE X (.Name z p2) (tC v) := by
    rcases hcv with h | ⟨h1, h2, h3⟩
    · exact pe_glob hgz h rv hdz
    · exact pe_bltn hgz h1 h2 rv h3 hdz
  refine PE.imp (pe_callB call_isX hg hmi (by decide +kernel) (pa_cons he (pa_cons pz pa_nil hs2) hs) (by decide) (by decide) hs hpl) fun σ H P ⟨ρ, own, gd, o⟩ => ⟨ρ, own, gd, ?_⟩
  unfold fIsX at o
  unfold fVar
  revert o
  cases hr : ρ[i]? with
  | none => exact fun o => False.elim o
  | some w => cases w with
    | none => exact fun o => False.elim o
    | some d => cases d with
      | exc w =>
        intro o
        have o : outR c q σ H own (Rp c.cm) (match l.lookup w with
          | some b => .ok (.bl b)
          | none => .no) P := o
        intro v1 H1 F s1 r1 k1
        cases r1 with
        | exc hw =>
          obtain ⟨rfl, rfl⟩ := hex _ _ hw
          revert o
          cases ht : l.lookup w with
          | none => exact fun o => False.elim o
          | some b =>
            intro o
            obtain ⟨g1, g2⟩ := hl w b C ht hm
            exact ⟨_, C, oe, v, cv, b, rfl, hp, hz, hf, g1, hv, g2, o (.bl b) H1 [] s1 (.bl b) .nil⟩
      | _ => exact fun o => False.elim o
theorem isX (i : Nat) (hT : IsTb X.K X.mg z l) (hmi : X.mg "isinstance" = none) (hz : Zc (.ref C) none oe) (hf : ∃ vs, oe.data = .fields vs) (hm : X.mg y = some (.ref C)) (he : DE X c qe e (fVar i)) (hp : (a, oe) ∈ X.pn := by exact List.mem_cons_self) (hex : ∀ b w, c.cm.ex b w → b = a ∧ w = y := by exact fun _ _ h => h.elim (fun q => q.elim) id)
    (hg : Gl X "isinstance" := by rfl) (hgz : Gl X z := by rfl) (hdz : (z == ("__debug__" : Str)) = false := by decide)
    (hs : starEach [e, .Name z p2] X.env = (false, eval e X.env) :: starEach [.Name z p2] X.env := by rfl) (hs2 : starEach [.Name z p2] X.env = (false, eval (.Name z p2) X.env) :: starEach [] X.env := by rfl) (hpl : (backTo pos (starEach [.Name z p2] X.env)).any (·.1) = false := by rfl) :
    DE X c q (.Call (.Name "isinstance" p) [e, .Name z p2] [] pos) (fIsX i fun y => l.lookup y) := de_isX hT hp hex hz hf hm he hg hmi hgz hdz hs hs2 hpl
theorem raises (hE : ExCls X.K X.mg x) (tk : Takes X c.W) (hcm : ∀ C, X.mg x = some (.ref C) → c.cm.cm x = some C := by exact fun _ h => cmOf_of h) (hc : X.calm = true := by rfl) (hg : Gl X x := by rfl) (hdb : (x == ("__debug__" : Str)) = false := by decide) {m : Str} {j : Nat} :
    DS X c (.Raise (some (.Call (.Name x p) [.Constant (.str m) j p2] [] pos)) none pos') (sRaise x) := ds_raise hE tk hcm hc hg hdb
theorem tryAs (i : Nat) (ws : List Nat) (hT : CaTb X.K X.mg x l) (hN : X.N.Nodup) (tk : Takes X c.W)
    (hb : ∀ (W : WX) (pn : List (Addr × Obj)) (xe : Value → Shared → Prop), Takes (X.tr pn xe) W → PassesOwn (model X.prog X.w) X.A X.env xe → DSs (X.tr pn xe) (c.wX W) body gb)
    (hsu : ∀ (a : Addr) (y : Str) (oe : Obj) (C : Addr) (pn : List (Addr × Obj)), Zc (.ref C) none oe → (∃ vs, oe.data = .fields vs) → X.mg y = some (.ref C) → DSs (X.suite a ((a, oe) :: pn)) (c.sui a y) (b₀ :: suite) gs)
    (hcm : ∀ y C, c.cm.cm y = some C → X.mg y = some (.ref C) := by exact fun _ _ h => cmOf_cm h) (hx0 : ∀ a z, ¬ c.cm.ex a z := by exact fun _ _ h => h) (hk : c.kd i = .z := by rfl) (hs : X.stack = X.env :: X.outer := by rfl) (hf : X.env.frame = some X.env.locals := by rfl)
    (hi : X.N[i]? = some n := by rfl) (hln : X.env.kindOf n = some .local := by rfl) (hg : Gl X x := by rfl) (hdb : (x == ("__debug__" : Str)) = false := by decide) :
    DS X c (.Try body [.ExceptHandler (some (.Name x np)) (some n) (b₀ :: suite) pos'] [] [] pos) (sTryAs i ws gb gs fun y => l.lookup y) := ds_try hT hcm hx0 hk hs hf hN hi hln hg hdb tk hb hsu
end
end Pd
/-! ### the head's facts, with facts about exceptions -/
namespace He
open PySem PySem.Spec PyProof.Rows L2 Pd
inductive Fb where
  | cx (y : Str)
  | ki (y z : Str) (b : Bool)
  | kt (y : Str) (z : Str) (T : String) (b : Bool)
  | xm (y z : Str) (b : Bool)
def eqF {α : Type} [DecidableEq α] (a b : Option (Option α)) : Bool := decide (a = b)
def Fb.ok (K : PySem.W.Frag) : Fb → Bool
  | .cx y => eqO (PySem.W.findIn K (.ref (ga K y)) "__getattribute__") (some (some (.builtin "BaseException.__getattribute__"))) && (eqO (PySem.W.findIn K (.ref (ga K y)) "__getattr__") (some none) && (decide (PySem.W.subIn K (.ref (ga K y)) (.type "BaseException") = some true) &&
    (PySem.W.hasDictIn K (ga K y) && (eqO (PySem.W.findIn K (.ref (ga K y)) "__class__") (some (some (.builtin "object.__class__"))) && (eqO (PySem.W.specialIn K (.builtin "object.__class__") "__get__") (some (some (.builtin "getset_descriptor.__get__"))) &&
    (decide (PySem.W.takesIn K (.builtin "object.__class__") = some true) && decide (PySem.W.mroIn K (ga K y) (.type "object") = some true)))))))
  | .ki y z b => decide (PySem.W.kitOne K (.ref (ga K y)) (.ref (ga K z)) = some b)
  | .kt y z T b => decide (PySem.W.kitOne K (.ref (ga K y)) (.type T) = some b)
  | .xm y z b => decide (PySem.W.exmOne K (.ref (ga K y)) (.ref (ga K z)) = some b)
abbrev AlY : Type := AlD × Bool
def obsY (fa : List Fa) (fn : List DefD) (fb : List Fb) (K : PySem.W.Frag) : AlY := (obsD fa fn K, fb.all fun f => f.ok K)
def valY (fn : List DefD) : AlY := (valD fn, true)
structure SaysY (fa : List Fa) (fn : List DefD) (fb : List Fb) (K : PySem.W.Frag) : Prop where
  d : SaysD fa fn K
  b : (fb.all fun f => f.ok K) = true
theorem SaysY.of {fa : List Fa} {fn : List DefD} {fb : List Fb} {K : PySem.W.Frag} (e : obsY fa fn fb K = valY fn) : SaysY fa fn fb K := ⟨congrArg (fun z : AlY => z.1) e, congrArg (fun z : AlY => z.2) e⟩
theorem SaysY.fact {fa : List Fa} {fn : List DefD} {fb : List Fb} {K : PySem.W.Frag} (c : SaysY fa fn fb K) (i : Nat) {f : Fa} (h : fa[i]? = some f := by rfl) : f.ok K = true := c.d.fact i h
theorem SaysY.factB {fa : List Fa} {fn : List DefD} {fb : List Fb} {K : PySem.W.Frag} (c : SaysY fa fn fb K) (i : Nat) {f : Fb} (h : fb[i]? = some f := by rfl) : f.ok K = true := List.all_eq_true.mp c.b f (List.mem_of_getElem? h)
theorem SaysY.def_ {fa : List Fa} {fn : List DefD} {fb : List Fb} {K : PySem.W.Frag} (c : SaysY fa fn fb K) (i : Nat) {d : DefD} (h : fn[i]? = some d := by rfl) : ∃ fd, FunD K d.name d.qual d.params d.body d.scope (d.dvs K) (d.kws K) (fAd K d.at_) fd := c.d.def_ i h
def obsYG (n : Nat) (fa : List Fa) (fn : List DefD) (fb : List Fb) (g : Addr → Option Obj) : AlY := obsY fa fn fb (frG g (asD g n))
def hookY (n : Nat) (fa : List Fa) (fn : List DefD) (fb : List Fb) : PySem.W.Hook where
  α := AlY
  obs := fun s => obsYG n fa fn fb s.heap.get?
  val := fun _ => valY fn
  says := fun _ h => ∃ K : PySem.W.Frag, K.In h ∧ SaysY fa fn fb K
  of := fun _ _ e => ⟨_, frG_in, .of e⟩
  keeps := fun _ _ _ ⟨K, hK, c⟩ k => ⟨K, PySem.W.Frag.In.keeps hK k, c⟩
theorem obsYG_eq {n : Nat} {fa : List Fa} {fn : List DefD} {fb : List Fb} {g : Addr → Option Obj} {s : Shared} (h : ∀ a, g a = s.heap.get? a) : obsYG n fa fn fb g = (hookY n fa fn fb).obs s := by
  have e : g = s.heap.get? := funext h
  rw [e] <;> rfl
section
variable {K : PySem.W.Frag} {h : Heap} {mg : Str → Option Value}
theorem excls_ok (X : K.In h) (G : h.Ns mainGlobals mg) {x : Str} (c0 : (Fa.glo x).ok K = true) (c : (Fa.exc x).ok K = true) : ExCls K mg x := by
  obtain ⟨h1, h2, h3, h4⟩ := exc_ok c
  exact ⟨_, glo_ok X G c0, h1, h2, h3, h4⟩
theorem excC_ok {y : Str} (c : (Fb.cx y).ok K = true) : ExcC K (ga K y) := by
  obtain ⟨c1, c⟩ := ba c
  obtain ⟨c2, c⟩ := ba c
  obtain ⟨c3, c⟩ := ba c
  obtain ⟨c4, c⟩ := ba c
  obtain ⟨c5, c⟩ := ba c
  obtain ⟨c6, c⟩ := ba c
  obtain ⟨c7, c8⟩ := ba c
  exact ⟨eqO_ok c1, eqO_ok c2, of_decide_eq_true c3, c4, eqO_ok c5, eqO_ok c6, of_decide_eq_true c7, of_decide_eq_true c8⟩
theorem mg_ga (X : K.In h) (G : h.Ns mainGlobals mg) {y : Str} {C : Addr} (c0 : (Fa.glo y).ok K = true) (hm : mg y = some (.ref C)) : C = ga K y := by
  have e := (glo_ok X G c0).symm.trans hm
  cases e
  rfl
/-- the tables, row by row -/
theorem catb_nil (X : K.In h) (G : h.Ns mainGlobals mg) {z : Str} (c0 : (Fa.glo z).ok K = true) : CaTb K mg z [] := ⟨_, .inl (glo_ok X G c0), fun _ _ _ z => nomatch z⟩
theorem catb_cons (X : K.In h) (G : h.Ns mainGlobals mg) {z y : Str} {b : Bool} {l : List (Str × Bool)} (cz : (Fa.glo z).ok K = true) (cy : (Fa.glo y).ok K = true) (c : (Fb.xm y z b).ok K = true) (t : CaTb K mg z l) : CaTb K mg z ((y, b) :: l) := by
  obtain ⟨cv, h1, h2⟩ := t.ex
  have e : cv = .ref (ga K z) := by
    have g := glo_ok X G cz
    rcases h1 with h1 | ⟨h1, _⟩
    · rw [g] at h1; cases h1; rfl
    · rw [g] at h1; cases h1
  subst e
  refine ⟨_, h1, fun y' b' C hl hm => ?_⟩
  rw [List.lookup_cons] at hl
  by_cases ey : y' = y
  · subst ey
    rw [beq_self_eq_true] at hl
    cases hl
    rw [mg_ga X G cy hm]
    exact of_decide_eq_true c
  · rw [show (y' == y) = false from beq_eq_false_iff_ne.mpr ey] at hl
    exact h2 y' b' C hl hm
theorem istb_nil (X : K.In h) (G : h.Ns mainGlobals mg) {z : Str} (c0 : (Fa.glo z).ok K = true) : IsTb K mg z [] := ⟨_, _, ⟨.own (ga K z), .inl (glo_ok X G c0)⟩, fun _ _ _ z => nomatch z⟩
theorem istb_nilB (X : K.In h) (G : h.Ns mainGlobals mg) {z : Str} {T : String} (c0 : (Fa.free z).ok K = true) (hb : bootBuiltins z = some (.type T)) (hn : z ≠ "__name__") : IsTb K mg z [] := ⟨_, _, ⟨.ty T, .inr ⟨free_ok X G c0, hb, hn⟩⟩, fun _ _ _ z => nomatch z⟩
theorem istb_cons (X : K.In h) (G : h.Ns mainGlobals mg) {z y : Str} {b : Bool} {l : List (Str × Bool)} (cz : (Fa.glo z).ok K = true) (cy : (Fa.glo y).ok K = true) (cx : (Fb.cx y).ok K = true) (c : (Fb.ki y z b).ok K = true) (t : IsTb K mg z l) : IsTb K mg z ((y, b) :: l) := by
  obtain ⟨v, cv, ⟨h0, h1⟩, h2⟩ := t.ex
  have e : cv = .ref (ga K z) := by
    have g := glo_ok X G cz
    rcases h1 with h1 | ⟨h1, _⟩
    · rw [g] at h1; cases h1; rfl
    · rw [g] at h1; cases h1
  subst e
  refine ⟨_, _, ⟨h0, h1⟩, fun y' b' C hl hm => ?_⟩
  rw [List.lookup_cons] at hl
  by_cases ey : y' = y
  · subst ey
    rw [beq_self_eq_true] at hl
    cases hl
    rw [mg_ga X G cy hm]
    exact ⟨excC_ok cx, of_decide_eq_true c⟩
  · rw [show (y' == y) = false from beq_eq_false_iff_ne.mpr ey] at hl
    exact h2 y' b' C hl hm
theorem istb_consB (X : K.In h) (G : h.Ns mainGlobals mg) {z y : Str} {T : String} {b : Bool} {l : List (Str × Bool)} (cz : (Fa.free z).ok K = true) (hb : bootBuiltins z = some (.type T)) (cy : (Fa.glo y).ok K = true) (cx : (Fb.cx y).ok K = true) (c : (Fb.kt y z T b).ok K = true) (t : IsTb K mg z l) : IsTb K mg z ((y, b) :: l) := by
  obtain ⟨v, cv, ⟨h0, h1⟩, h2⟩ := t.ex
  have e : cv = .type T := by
    have g := free_ok X G cz
    rcases h1 with h1 | ⟨_, h1, _⟩
    · rw [g] at h1; cases h1
    · rw [hb] at h1; cases h1; rfl
  subst e
  refine ⟨_, _, ⟨h0, h1⟩, fun y' b' C hl hm => ?_⟩
  rw [List.lookup_cons] at hl
  by_cases ey : y' = y
  · subst ey
    rw [beq_self_eq_true] at hl
    cases hl
    rw [mg_ga X G cy hm]
    exact ⟨excC_ok cx, of_decide_eq_true c⟩
  · rw [show (y' == y) = false from beq_eq_false_iff_ne.mpr ey] at hl
    exact h2 y' b' C hl hm
end
end He
set_option Elab.async false
set_option linter.all false
set_option maxRecDepth 100000
set_option maxHeartbeats 4000000
namespace Pd
open PySem PySem.Spec PyProof.Rows L2
/-! ### str(x) -/
def strS : List D → Option D
  | [.int i] => if -BIGD < i ∧ i < BIGD then some (.str (toString i)) else none
  | [.str x] => some (.str x)
  | _ => none
theorem call_strstr {X : Cx} : CallR X (.type "str") (fun xs H Q => ∃ a, xs = [.str a] ∧ Q (.str a) H) := SkE.call_str_str
theorem cd_str {X : Cx} {c : Cfg} : CallD X c (.type "str") strS := by
  intro pins st σ H xs us P I rx h
  obtain ⟨ds, F, r, h⟩ := h
  unfold strS at h
  split at h
  · rename_i i
    by_cases hi : -BIGD < i ∧ i < BIGD
    · rw [if_pos hi] at h
      obtain ⟨v, rfl, r1⟩ := r.one_inv
      cases r1
      refine call_str_int pins st σ H _ us P I rx ⟨i, rfl, ?_, h.imm (.str _)⟩
      have hb := natAbs_big hi.1 hi.2
      by_cases h0 : i.natAbs = 0
      · rw [h0]; decide
      · have := (Nat.log2_lt h0).mpr hb
        omega
    · rw [if_neg hi] at h
      exact False.elim h
  · obtain ⟨v, rfl, r1⟩ := r.one_inv
    cases r1
    exact call_strstr pins st σ H _ us P I rx ⟨_, rfl, h.imm (.str _)⟩
  · exact False.elim h
end Pd
set_option Elab.async false
set_option linter.all false
set_option maxRecDepth 100000
set_option maxHeartbeats 4000000
namespace Pd
open PySem PySem.Spec PyProof.Rows L2
/-! ### own classes: fields -/
/-- in these classes the field f is the instance's own -/
structure FldTb (K : PySem.W.Frag) (mg : Str → Option Value) (f : Str) (cl : List Str) : Prop where
  ex : ∀ c ∈ cl, ∀ C, mg c = some (.ref C) → Cls K C ∧ NoAttr K C f
def inCl (cl : List Str) (c : Str) : Bool := cl.any fun x => decide (x = c)
theorem inCl_mem {cl : List Str} {c : Str} (h : inCl cl c = true) : c ∈ cl := by
  unfold inCl at h
  obtain ⟨x, hx, e⟩ := List.any_eq_true.mp h
  rw [decide_eq_true_eq] at e
  rwa [← e]
def fldD (cl : List Str) (f : Str) : D → Option D
  | .ins c ns vs => if inCl cl c = true then lookK f ns vs else none
  | _ => none
theorem Rps.lookF {cm : Md} {H : Hp} {f : Str} {y : D} : ∀ {fs : List (Str × V)} {ds : List D} {G : List Addr}, Rps cm H (fs.map (·.2)) ds G → lookK f (fs.map (·.1)) ds = some y → ∃ v G', fs.lookup f = some v ∧ Rp cm H v y G' ∧ G'.Sublist G := by
  intro fs
  induction fs with
  | nil => intro ds G r h; cases r; cases h
  | cons p fs ih =>
    intro ds G r h
    cases r with
    | @cons _ _ d ds F1 F2 r1 r2 =>
      have h' : (if p.1 = f then some d else lookK f (fs.map (·.1)) ds) = some y := h
      rw [List.lookup_cons]
      by_cases e : p.1 = f
      · rw [if_pos e] at h'
        cases h'
        rw [show (f == p.1) = true from by rw [e]; exact beq_self_eq_true _]
        exact ⟨_, F1, rfl, r1, List.sublist_append_left _ _⟩
      · rw [if_neg e] at h'
        rw [show (f == p.1) = false from beq_eq_false_iff_ne.mpr fun z => e z.symm]
        obtain ⟨v, G', h1, h2, h3⟩ := ih r2 h'
        exact ⟨v, G', h1, h2, h3.trans (List.sublist_append_right _ _)⟩
section
variable {X : Cx} {c : Cfg} {q qa qb qk : Q} {a b e ek : Expr} {es : List Expr} {p p2 pos pos' apos cpos : Pos} {f fk fv : Env → R D} {fp : Env → R (List Nat)} {fs : Env → R (List D)} {σ : L2.St} {H H1 : Hp} {ρ : Env} {own : Ow} {i : Nat} {x fn : Str} {cl : List Str}
theorem de_fld (hT : FldTb X.K X.mg fn cl) (hcm : ∀ y C, c.cm.cm y = some C → X.mg y = some (.ref C)) (he : DE X c q e f) (hb : attributeBase e fn X.env (eval e X.env) = eval e X.env) : DE X c q (.Attribute e fn pos) (f1 (fldD cl fn) f) :=
  PE.imp (pe_fld he hb) fun σ H P ⟨ρ, own, g, o⟩ => ⟨ρ, own, g, outR.bind o fun d v H1 F hd s1 r1 k1 o1 => by
    cases d with
    | ins c' ns vs =>
      have o1 : outR c q σ H own (Rp c.cm) (ofO (if inCl cl c' = true then lookK fn ns vs else none)) P := o1
      by_cases hc : inCl cl c' = true
      · rw [if_pos hc] at o1
        cases hl : lookK fn ns vs with
        | none => rw [hl] at o1; exact False.elim o1
        | some y =>
          rw [hl] at o1
          have o2 : outR c q σ H own (Rp c.cm) (R.ok y) P := o1
          cases r1 with
          | @ins a C dx fs _ _ _ G e1 e2 e3 rr =>
            subst e3
            obtain ⟨w, G', h1, h2, h3⟩ := rr.lookF hl
            obtain ⟨t1, t2⟩ := hT.ex c' (inCl_mem hc) C (hcm _ _ e2)
            exact ⟨a, C, dx, fs, w, rfl, e1, t1, t2, h1, o2 w H1 G' s1 h2 (k1.der g s1 (Rp.trk (.ins e1 e2 rfl rr)) (.sublist (h3.trans (List.sublist_cons_self _ _))))⟩
      · rw [if_neg hc] at o1; exact False.elim o1
    | _ => exact False.elim o1⟩
/-! paths through fields -/
def idxF (f : Str) : List Str → Option Nat
  | [] => none
  | g :: r => if g = f then some 0 else (idxF f r).map (· + 1)
def stepF (cl : List Str) (fn : Str) (d : D) (p : List Nat) : Option (List Nat) := match subP d p with
  | some (.ins c ns _) => if inCl cl c = true then (idxF fn ns).map fun n => p ++ [n] else none
  | _ => none
def pFld (i : Nat) (fp : Env → R (List Nat)) (cl : List Str) (fn : Str) : Env → R (List Nat) := fun ρ => (fp ρ).bind fun p => (curD i ρ).bind fun d => ofO (stepF cl fn d p)
theorem idxF_get {fn : Str} : ∀ {fs : List (Str × V)} {n : Nat} {v : V}, idxF fn (fs.map (·.1)) = some n → (fs.map (·.2))[n]? = some v → fs.lookup fn = some v
  | [], n, v, h, _ => by cases h
  | p :: fs, n, v, h, hv => by
    have h' : (if p.1 = fn then some 0 else (idxF fn (fs.map (·.1))).map (· + 1)) = some n := h
    rw [List.lookup_cons]
    by_cases e : p.1 = fn
    · rw [if_pos e] at h'
      cases h'
      rw [show (fn == p.1) = true from by rw [e]; exact beq_self_eq_true _]
      cases hv
      rfl
    · rw [if_neg e] at h'
      rw [show (fn == p.1) = false from beq_eq_false_iff_ne.mpr fun z => e z.symm]
      obtain ⟨m, h1, h2⟩ := Option.map_eq_some_iff.mp h'
      subst h2
      exact idxF_get h1 (by simpa using hv)
theorem idxF_lt {fn : Str} : ∀ {ns : List Str} {n : Nat}, idxF fn ns = some n → n < ns.length
  | [], n, h => by cases h
  | g :: r, n, h => by
    have h' : (if g = fn then some 0 else (idxF fn r).map (· + 1)) = some n := h
    by_cases e : g = fn
    · rw [if_pos e] at h'; cases h'; exact Nat.succ_pos _
    · rw [if_neg e] at h'
      obtain ⟨m, h1, h2⟩ := Option.map_eq_some_iff.mp h'
      subst h2
      exact Nat.succ_lt_succ (idxF_lt h1)
theorem dp_fld (hT : FldTb X.K X.mg fn cl) (hcm : ∀ y C, c.cm.cm y = some C → X.mg y = some (.ref C)) (ha : DP X c i e fp) (hb : attributeBase e fn X.env (eval e X.env) = eval e X.env) : DP X c i (.Attribute e fn pos) (pFld i fp cl fn) :=
  PE.imp (pe_fld ha hb) fun σ H P ⟨ρ, own, g, o⟩ => ⟨ρ, own, g, by
    unfold pFld at o
    cases hp : fp ρ with
    | no => rw [hp] at o; exact o
    | exc x => rw [hp] at o; exact o
    | ok pp =>
      rw [hp] at o
      simp only [R.bind_ok] at o
      intro H1 d e0 v v' A F' B s1 hρ hσ so rt hsub rv hole
      unfold curD at o
      rw [hρ] at o
      simp only [R.bind_ok] at o
      unfold stepF at o
      rw [hsub] at o
      cases e0 with
      | ins c' ns vs =>
        by_cases hc : inCl cl c' = true
        · simp only [if_pos hc] at o
          cases hn : idxF fn ns with
          | none => simp only [hn, Option.map_none, ofO] at o
          | some n =>
            simp only [hn, Option.map_some, ofO] at o
            cases rv with
            | @ins a C dx fs _ _ _ G e1 e2 e3 rr =>
              subst e3
              have hlt := idxF_lt hn
              have hl2 : n < vs.length := by rw [← rr.length]; simpa using hlt
              obtain ⟨v2, A', F2, B', h1, h2, h3, h4, h5⟩ := Hole.kid (o := .ins C dx fs) (k := n) hole hsub (by rfl) e1 rr (fun H' ds' G' ha' r' hlen => .ins ha' e2 rfl r') (List.getElem?_eq_getElem hl2)
              obtain ⟨t1, t2⟩ := hT.ex c' (inCl_mem hc) C (hcm _ _ e2)
              refine ⟨a, C, dx, fs, v2, rfl, e1, t1, t2, idxF_get hn h1, ?_⟩
              have e4 : A ++ (a :: G) ++ B = A' ++ F2 ++ B' := h3
              exact o H1 d _ v v2 A' F2 B' s1 rfl hσ (by rw [← e4]; exact so) (by rw [← e4]; exact rt) h4 h2 h5
        · simp only [if_neg hc, ofO] at o
      | _ => exact False.elim o⟩
end
/-! x.f = v -/
def putFN (f : Str) : List Str → List Str
  | [] => [f]
  | g :: r => if g = f then g :: r else g :: putFN f r
def putFD (f : Str) (y : D) : List Str → List D → List D
  | g :: r, d :: ds => if g = f then y :: ds else d :: putFD f y r ds
  | _, _ => [y]
theorem putF_fst (f : Str) (v : V) : ∀ fs : List (Str × V), (putF f v fs).map (·.1) = putFN f (fs.map (·.1))
  | [] => rfl
  | p :: fs => by
    obtain ⟨g, x⟩ := p
    show (if g = f then (g, v) :: fs else (g, x) :: putF f v fs).map (·.1) = if g = f then g :: fs.map (·.1) else g :: putFN f (fs.map (·.1))
    split
    · rfl
    · rw [List.map_cons, putF_fst f v fs]
theorem Rps.putF {cm : Md} {H : Hp} {f : Str} : ∀ {fs : List (Str × V)} {ds : List D} {G : List Addr}, Rps cm H (fs.map (·.2)) ds G → ∃ A F' B, G = A ++ F' ++ B ∧
    ∀ H' w y F'', Rp cm H' w y F'' → (∀ b o, H b = some o → (b ∈ A ++ B ∨ isMut o = false) → H' b = some o) → Rps cm H' ((L2.putF f w fs).map (·.2)) (putFD f y (fs.map (·.1)) ds) (A ++ F'' ++ B)
  | [], ds, G, r => by
    cases r
    refine ⟨[], [], [], rfl, fun H' w y F'' r' _ => ?_⟩
    have := Rps.one r'
    simpa [putFD, L2.putF] using this
  | p :: fs, ds, G, r => by
    obtain ⟨g, x⟩ := p
    cases r with
    | @cons _ _ d ds F1 F2 r1 r2 =>
      by_cases e : g = f
      · refine ⟨[], F1, F2, rfl, fun H' w y F'' r' ag => ?_⟩
        have q := Rps.cons r' (r2.mono fun b o hb z => ag b o hb (z.imp (fun w => by simpa using w) id))
        simpa [putFD, L2.putF, e] using q
      · obtain ⟨A, F', B, h2, h4⟩ := Rps.putF (f := f) r2
        refine ⟨F1 ++ A, F', B, by rw [h2]; simp, fun H' w y F'' r' ag => ?_⟩
        have q := Rps.cons (r1.mono fun b o hb z => ag b o hb (z.imp (fun w => by simp [w]) id)) (h4 H' w y F'' r' fun b o hb z => ag b o hb (z.imp (fun w => by
          rcases List.mem_append.mp w with w | w <;> simp [w]) id))
        simpa [putFD, L2.putF, e, List.append_assoc] using q
def setF (cl : List Str) (fn : Str) (d y : D) : Option D := match d with
  | .ins c ns vs => if inCl cl c = true ∧ ns.length < 1000 then some (.ins c (putFN fn ns) (putFD fn y ns vs)) else none
  | _ => none
def sPutF (i : Nat) (fp : Env → R (List Nat)) (cl : List Str) (fn : Str) (fv : Env → R D) : Env → SR := fun ρ => match fv ρ with
  | .ok y => match (fp ρ).bind fun p => (curD i ρ).bind fun d => ofO (((subP d p).bind fun e => setF cl fn e y).map fun e' => putP d p e') with
    | .ok d' => .nx (ρ.set i (some d'))
    | _ => .no
  | .exc x => .ex x ρ
  | .no => .no
section
variable {X : Cx} {c : Cfg} {q qa qb qk : Q} {a b e ek : Expr} {es : List Expr} {p p2 pos pos' apos cpos : Pos} {f fk fv fo : Env → R D} {fp : Env → R (List Nat)} {fs : Env → R (List D)} {σ : L2.St} {H H1 : Hp} {ρ : Env} {own : Ow} {i : Nat} {x fn : Str} {cl : List Str}
theorem ds_fld (hT : FldTb X.K X.mg fn cl) (hcm : ∀ y C, c.cm.cm y = some C → X.mg y = some (.ref C)) (hk : c.kd i = .m) (ha : DP X c i a fp) (hv : DE X c (.n []) e fv) (hs : swapsWith e (some (.Attribute a fn pos')) pos.line X.env = pure false) : DS X c (.Assign [.Attribute a fn pos'] e pos) (sPutF i fp cl fn fv) :=
  PS.imp (ps_fld ha hv hs) fun Dn σ H ⟨ρ, own, gd, o⟩ => ⟨ρ, own, gd, by
    unfold sPutF at o
    cases hfv : fv ρ with
    | no => rw [hfv] at o; exact o
    | exc y => rw [hfv] at o; exact fun C dd H' e s => o C dd σ H' own e (gd.same s) (.ofSame s)
    | ok y =>
      rw [hfv] at o
      intro vv H1 Fy s1 ry ky
      refine ⟨ρ, own, gd.same s1, ?_⟩
      have o1 : outS c H own (match (fp ρ).bind fun p => (curD i ρ).bind fun d => ofO (((subP d p).bind fun e => setF cl fn e y).map fun e' => putP d p e') with
        | .ok d' => .nx (ρ.set i (some d'))
        | _ => .no) Dn := o
      cases hfp : fp ρ with
      | no => rw [hfp] at o1; exact o1
      | exc z => rw [hfp] at o1; exact o1
      | ok pp =>
      rw [hfp] at o1
      simp only [R.bind_ok] at o1
      intro H2 d e2 v v' A F' B s2 hρ hσ so rt hsub rv hole
      have cd : curD i ρ = .ok d := by unfold curD; rw [hρ]
      simp only [cd, R.bind_ok, hsub, Option.bind_some] at o1
      have s12 := s1.trans s2
      have ry2 := ry.same s2
      cases e2 with
      | ins c' ns vs =>
        by_cases hc : inCl cl c' = true ∧ ns.length < 1000
        · cases rv with
          | @ins ad C dx fs _ _ _ G e1 e2 e3 rr =>
            subst e3
            obtain ⟨t1, t2⟩ := hT.ex c' (inCl_mem hc.1) C (hcm _ _ e2)
            refine ⟨ad, C, dx, fs, rfl, e1, t1, t2, by have := hc.2; rw [List.length_map] at this; exact this, ?_⟩
            obtain ⟨A0, F0, B0, h2, h4⟩ := rr.putF (f := fn)
            have hadown : ad ∈ own i := by
              unfold SOk at so
              rw [hk] at so
              rw [← so.2.1]; simp
            have nad : ad ∉ G := by
              unfold SOk at so
              rw [hk] at so
              exact (List.nodup_cons.mp (List.nodup_append.mp (List.nodup_append.mp so.1).1).2.1).1
            have nFy : ad ∉ Fy := fun z => by
              have := (ky.2 ad z).resolve_right (fun ⟨_, w, _⟩ => nomatch w)
              obtain ⟨o9, e9, _⟩ := gd.ownM i ad hadown
              rw [this] at e9; cases e9
            have nm : ∀ {b : Addr} {o : HO}, H2 b = some o → isMut o = false → b ≠ ad := fun hb hm e9 => by
              subst e9; rw [e1] at hb; cases hb; cases hm
            have es : setF cl fn (.ins c' (fs.map (·.1)) vs) y = some (.ins c' (putFN fn (fs.map (·.1))) (putFD fn y (fs.map (·.1)) vs)) := if_pos hc
            simp only [es, Option.map_some, ofO] at o1
            obtain ⟨own', g', x'⟩ := part_write (o' := .ins C dx (L2.putF fn vv fs)) (N := A0 ++ Fy ++ B0) (FF := Fy) gd s12 hk hρ hσ so rt hole rfl ky ry2.trk (by rw [h2]; exact .sub_mid) fun keep => .ins upd_same e2 (putF_fst _ _ _).symm (h4 _ vv y Fy (ry2.mono fun b o hb z => keep b o hb (z.elim (fun w e9 => nFy (by rw [← e9]; exact w)) (nm hb))) fun b o hb z => keep b o hb (z.elim (fun w e9 => nad (by
              rw [h2, ← e9]
              rcases List.mem_append.mp w with w | w <;> simp [w])) (nm hb)))
            exact o1 σ _ own' g' x'
        · simp only [setF, if_neg hc, Option.map_none, ofO] at o1; exact False.elim o1
      | _ => simp only [setF, Option.map_none, ofO] at o1; exact False.elim o1⟩
/-! ### methods that only read -/
structure MeTb (P : Program) (w : World) (K : PySem.W.Frag) (mg : Str → Option Value) (base : Heap) (cm : Md) (m : Str) (k : Nat) (fr : Bool) (n : Nat) (dds : List D) (tb : Str → Option (List D → R D)) : Prop where
  ex : ∀ c Fn, tb c = some Fn → ∃ (C fa : Addr) (fd : FuncData) (ps : List Str) (ds : List Value) (dvs : List V), mg c = some (.ref C) ∧ Cls K C ∧ Meth K C m fa ∧ Binds K fd ps ds ∧ Vals dvs ds ∧ (∀ H, Rps cm H dvs dds []) ∧ ps.length = n ∧ ((∀ ds' d, Fn ds' = .ok d → ds'.length = n) ∧ ∀ ds' d, Fn ds' = .exc d → ds'.length = n) ∧ FnOk P w K mg base (L2.CX P w) k fa fd ps (spD cm n fr Fn)
def fMeth (m : Str) (tb : Str → Option (List D → R D)) (dds : List D) (fo : Env → R D) (fs : Env → R (List D)) : Env → R D := fun ρ => (fo ρ).bind fun d => match d with
  | .ins c ns _ => (match tb c with
    | some Fn => if inCl ns m = true then .no else (fs ρ).bind fun ds => Fn (d :: (ds ++ dds))
    | none => .no)
  | _ => .no
theorem lookF_none {fn : Str} : ∀ {fs : List (Str × V)}, inCl (fs.map (·.1)) fn = false → fs.lookup fn = none
  | [], _ => rfl
  | p :: fs, h => by
    have h' : (decide (p.1 = fn) || inCl (fs.map (·.1)) fn) = false := h
    rw [Bool.or_eq_false_iff, decide_eq_false_iff_not] at h'
    rw [List.lookup_cons, show (fn == p.1) = false from beq_eq_false_iff_ne.mpr fun z => h'.1 z.symm]
    exact lookF_none h'.2
/-- what such a call leaves to be shown -/
theorem meth_core {P : VK} {Fn : List D → R D} {dvs : List V} {dds : List D} {fr : Bool} {n : Nat} {v : V} {d : D} {F : List Addr} {qo : Q} (hq : Qc fr qk q) (j : Qj qo qa qk) (hdd : ∀ H, Rps c.cm H dvs dds []) (ln : (∀ ds' d, Fn ds' = .ok d → ds'.length = n) ∧ ∀ ds' d, Fn ds' = .exc d → ds'.length = n)
    (g : Gd c σ H ρ own) (s0 : Same H H1) (r0 : Rp c.cm H1 v d F) (k0 : QOk c qo H own F) (o : outR c q σ H own (Rp c.cm) ((fs ρ).bind fun ds => Fn (d :: (ds ++ dds))) P) : rdL c qa fs σ H1 fun vs H2 => spD c.cm n fr Fn (v :: (vs ++ dvs)) H2 P (WE c.W σ) := by
  refine ⟨ρ, own, g.same s0, ?_⟩
  have g1 := g.same s0
  cases hfs : fs ρ with
  | no => rw [hfs] at o; exact o
  | exc y => rw [hfs] at o; exact fun C dd H' e s => o C dd H' e (s0.trans s)
  | ok ds' =>
    rw [hfs] at o
    intro vs H2 G s1 r1 k1
    have s01 := s0.trans s1
    have rr := Rps.cons (r0.same s1) (r1.append (hdd H2))
    rw [List.append_nil] at rr
    have kk : QOk c qk H own (F ++ G) := QOk.join j g s0 k0 r0.trk k1
    have len : (v :: (vs ++ dvs)).length = (d :: (ds' ++ dds)).length := rr.length
    have lk1 : ∀ a, c.cm.lk a → H2 a ≠ none := fun a hl => ((g.same s01).lk a hl).1
    simp only [R.bind_ok] at o
    unfold spD
    cases hF : Fn (d :: (ds' ++ dds)) with
    | no => rw [hF] at o; exact False.elim o
    | exc y => rw [hF] at o; exact ⟨len.trans (ln.2 _ _ hF), lk1, _, F ++ G, rr, by rw [hF]; exact fun C dd H' e s' => o C dd H' e (s01.trans s')⟩
    | ok dd =>
      rw [hF] at o
      refine ⟨len.trans (ln.1 _ _ hF), lk1, _, F ++ G, rr, by
        rw [hF]
        intro w H' G2 s' r' rq
        refine o w H' G2 (s01.trans s') r' ?_
        cases hq with
        | fr =>
          rw [if_pos rfl] at rq
          exact ⟨rq.1, fun a ha => .inl (s01.free (rq.2 a ha))⟩
        | z =>
          rw [if_neg Bool.false_ne_true] at rq
          exact fun a ha => (rq a ha).elim (kk a) fun z => ⟨g.newB (s01.free z), g.newOwn (s01.free z)⟩
        | n =>
          rw [if_neg Bool.false_ne_true] at rq
          exact fun a ha => (rq a ha).elim (kk.z_of_n g a) fun z => ⟨g.newB (s01.free z), g.newOwn (s01.free z)⟩
        | b =>
          rw [if_neg Bool.false_ne_true] at rq
          exact fun a ha => (rq a ha).elim (kk.b g a) fun z => g.newB (s01.free z)⟩
theorem meth_pre {P : VK} {Q' : V → Hp → Prop} {m : Str} {tb : Str → Option (List D → R D)} {dds : List D} {qo : Q} (hcm : ∀ y C, c.cm.cm y = some C → X.mg y = some (.ref C)) (h : rd c q (fMeth m tb dds fo fs) σ H P)
    (k : ∀ (ρ : Env) (own : Ow) (c' : Str) (ns : List Str) (vs : List D) (Fn : List D → R D) (a C dx : Addr) (fl : List (Str × V)) (H1 : Hp) (F : List Addr), Gd c σ H ρ own → Same H H1 → tb c' = some Fn → X.mg c' = some (.ref C) → H1 a = some (.ins C dx fl) → fl.lookup m = none → Rp c.cm H1 (.ref a) (.ins c' ns vs) F → QOk c qo H own F →
      outR c q σ H own (Rp c.cm) ((fs ρ).bind fun ds => Fn (.ins c' ns vs :: (ds ++ dds))) P → Q' (.ref a) H1) : rd c qo fo σ H Q' := by
  obtain ⟨ρ, own, g, o⟩ := h
  refine ⟨ρ, own, g, ?_⟩
  unfold fMeth at o
  cases hfo : fo ρ with
  | no => rw [hfo] at o; exact o
  | exc y => rw [hfo] at o; exact fun C dd H' e s => o C dd H' e s
  | ok d =>
    rw [hfo] at o
    intro v H1 F s1 r1 k1
    cases d with
    | ins c' ns vs =>
      have o : outR c q σ H own (Rp c.cm) (match tb c' with
        | some Fn => if inCl ns m = true then .no else (fs ρ).bind fun ds => Fn (.ins c' ns vs :: (ds ++ dds))
        | none => .no) P := o
      cases hF : tb c' with
      | none => rw [hF] at o; exact False.elim o
      | some Fn =>
        rw [hF] at o
        have o : outR c q σ H own (Rp c.cm) (if inCl ns m = true then .no else (fs ρ).bind fun ds => Fn (.ins c' ns vs :: (ds ++ dds))) P := o
        by_cases hn : inCl ns m = true
        · rw [if_pos hn] at o; exact False.elim o
        · rw [if_neg hn] at o
          have r1' := r1
          cases r1 with
          | @ins a C dx fl _ _ _ G e1 e2 e3 rr =>
            subst e3
            exact k ρ own c' _ vs Fn a C dx fl H1 _ g s1 hF (hcm _ _ e2) e1 (lookF_none (Bool.eq_false_iff.mpr hn)) r1' k1 o
    | _ => exact False.elim o
theorem de_meth {pl : Sem Bool} {m : Str} {k k' : Nat} {fr : Bool} {n : Nat} {dds : List D} {tb : Str → Option (List D → R D)} {qo : Q} {eo : Expr} (hT : MeTb X.prog X.w X.K X.mg X.base c.cm m k fr n dds tb) (hr : Room k' X.A) (hkk : k ≤ k') (tk : Takes X c.W) (hcm : ∀ y C, c.cm.cm y = some C → X.mg y = some (.ref C)) (hq : Qc fr qk q) (j : Qj qo qa qk) (he : DE X c qo eo fo) (ha : DA X c qa (e :: es) fs)
    (hst : starEach (e :: es) X.env = (false, eval e X.env) :: starEach es X.env) (hpl : (backTo pos (starEach es X.env)).any (·.1) = false)
    (ht : eval (.Call (.Attribute eo m apos) (e :: es) [] pos) X.env = (do
      let ov ← eval eo X.env
      standAt apos.atName
      let (f, first) ← holding [ov] (getMethod ov m pl)
      callWith pos f first (backTo pos (starEach (e :: es) X.env)) (backToKw pos (keywordEach [] X.env)))) : DE X c q (.Call (.Attribute eo m apos) (e :: es) [] pos) (fMeth m tb dds fo fs) := by
  refine ⟨fun pins s σ H P I h => ?_⟩
  have h1 := meth_pre (X := X) (qo := qo) (Q' := fun x H1 => ∃ (a C dx fa : Addr) (fd : FuncData) (ps : List Str) (ds : List Value) (dvs : List V) (fl : List (Str × V)) (Fn : List D → R D), x = .ref a ∧ H1 a = some (.ins C dx fl) ∧ fl.lookup m = none ∧ Cls X.K C ∧ Meth X.K C m fa ∧ Binds X.K fd ps ds ∧ Vals dvs ds ∧ ps.length = n ∧ FnOk X.prog X.w X.K X.mg X.base (L2.CX X.prog X.w) k fa fd ps (spD c.cm n fr Fn) ∧ rdL c qa fs σ H1 fun vs H2 => spD c.cm n fr Fn (.ref a :: (vs ++ dvs)) H2 P (WE c.W σ)) hcm h fun ρ own c' ns vs Fn a C dx fl H1 F g s1 hF hC e1 e2 r1 k1 o => by
    obtain ⟨C', fa, fd, ps, ds, dvs, t1, t2, t3, t4, t5, t6, t7, t8, t9⟩ := hT.ex c' Fn hF
    rw [hC] at t1
    cases t1
    exact ⟨a, C, dx, fa, fd, ps, ds, dvs, fl, Fn, rfl, e1, e2, t2, t3, t4, t5, t7, t9, meth_core hq j t6 t8 g s1 r1 k1 o⟩
  refine PySem.W.methodCall_KW (pl := pl) (thn (he.run pins s σ H _ I h1) fun u s1 ⟨x, H1, I1, rx, a, C, dx, fa, fd, ps, ds, dvs, fl, Fn, ex, ea, l, t2, t3, t4, t5, t7, t9, q1⟩ => ?_) ht
  subst ex
  obtain rfl : u = Value.ref a := rx
  subst t7
  refine getmeth_ok I1 ea t2 t3 l ?_
  refine PySem.W.callWith_K (first := [.ref a]) (h₀ := X.base) I.ok.mod.kin t3.kp (thn (ha.run pos pins s1 σ H1 _ I1 q1) fun us s2 ⟨vs, H2, I2, r, q2⟩ => ⟨I2.kIn, ?_⟩) hst hpl
  exact run_d (us := .ref a :: us) (vs := .ref a :: vs) t9 (hr.mono hkk) t4 t5 (passAt tk σ) I2 (.cons rfl r) q2
theorem de_meth0 {pl : Sem Bool} {m : Str} {k k' : Nat} {fr : Bool} {n : Nat} {dds : List D} {tb : Str → Option (List D → R D)} {qo : Q} {eo : Expr} (hT : MeTb X.prog X.w X.K X.mg X.base c.cm m k fr n dds tb) (hr : Room k' X.A) (hkk : k ≤ k') (tk : Takes X c.W) (hcm : ∀ y C, c.cm.cm y = some C → X.mg y = some (.ref C)) (hq : Qc fr qk q) (j : Qj qo (.n []) qk) (he : DE X c qo eo fo)
    (ht : eval (.Call (.Attribute eo m apos) [] [] pos) X.env = (do
      let ov ← eval eo X.env
      standAt apos.atName
      let (f, first) ← holding [ov] (getMethod ov m pl)
      callWith pos f first (backTo pos (starEach [] X.env)) (backToKw pos (keywordEach [] X.env)))) : DE X c q (.Call (.Attribute eo m apos) [] [] pos) (fMeth m tb dds fo fNil) := by
  refine ⟨fun pins s σ H P I h => ?_⟩
  have h1 := meth_pre (X := X) (qo := qo) (Q' := fun x H1 => ∃ (a C dx fa : Addr) (fd : FuncData) (ps : List Str) (ds : List Value) (dvs : List V) (fl : List (Str × V)) (Fn : List D → R D), x = .ref a ∧ H1 a = some (.ins C dx fl) ∧ fl.lookup m = none ∧ Cls X.K C ∧ Meth X.K C m fa ∧ Binds X.K fd ps ds ∧ Vals dvs ds ∧ ps.length = n ∧ FnOk X.prog X.w X.K X.mg X.base (L2.CX X.prog X.w) k fa fd ps (spD c.cm n fr Fn) ∧ rdL c (.n []) fNil σ H1 fun vs H2 => spD c.cm n fr Fn (.ref a :: (vs ++ dvs)) H2 P (WE c.W σ)) hcm h fun ρ own c' ns vs Fn a C dx fl H1 F g s1 hF hC e1 e2 r1 k1 o => by
    obtain ⟨C', fa, fd, ps, ds, dvs, t1, t2, t3, t4, t5, t6, t7, t8, t9⟩ := hT.ex c' Fn hF
    rw [hC] at t1
    cases t1
    exact ⟨a, C, dx, fa, fd, ps, ds, dvs, fl, Fn, rfl, e1, e2, t2, t3, t4, t5, t7, t9, meth_core hq j t6 t8 g s1 r1 k1 o⟩
  refine PySem.W.methodCall_KW (pl := pl) (thn (he.run pins s σ H _ I h1) fun u s1 ⟨x, H1, I1, rx, a, C, dx, fa, fd, ps, ds, dvs, fl, Fn, ex, ea, l, t2, t3, t4, t5, t7, t9, q1⟩ => ?_) ht
  subst ex
  obtain rfl : u = Value.ref a := rx
  subst t7
  refine getmeth_ok I1 ea t2 t3 l ?_
  obtain ⟨ρ, own, g, o⟩ := q1
  have q2 := o [] H1 [] (Same.refl H1) .nil .nil
  exact PySem.W.callWith_K0 (first := [.ref a]) I1.kIn t3.kp (run_d (us := [.ref a]) (vs := [.ref a]) t9 (hr.mono hkk) t4 t5 (passAt tk σ) I1 (.cons rfl .nil) q2)
end
end Pd
set_option Elab.async false
set_option linter.all false
set_option maxRecDepth 100000
set_option maxHeartbeats 4000000
namespace Pd
open PySem PySem.Spec PyProof.Rows L2
/-! ### own classes: new instances -/
def mkR : MX → R D
  | .ok d ρ' => match d with
    | .non => match ρ'[0]? with
      | some (some e) => .ok e
      | _ => .no
    | _ => .no
  | .exc x _ => .exc x
  | .no => .no
def fMake (c : Str) (Fn : List D → MX) (dds : List D) (fs : Env → R (List D)) : Env → R D := fun ρ => (fs ρ).bind fun ds => mkR (Fn (.ins c [] [] :: (ds ++ dds)))
def fMakeK (c : Str) (Fn : List D → MX) (fs : Env → R (List D)) (fk : Env → R D) : Env → R D := fun ρ => (fs ρ).bind fun ds => (fk ρ).bind fun d => mkR (Fn (.ins c [] [] :: (ds ++ [d])))
structure MkTb (P : Program) (w : World) (K : PySem.W.Frag) (mg : Str → Option Value) (base : Heap) (cm : Md) (c : Str) (k n : Nat) (dds : List D) (Fn : List D → MX) : Prop where
  ex : ∃ (C fa : Addr) (fd : FuncData) (ps : List Str) (ds : List Value) (dvs : List V), mg c = some (.ref C) ∧ cm.cm c = some C ∧ Mk K C fa ∧ Binds K fd ps ds ∧ Vals dvs ds ∧ (∀ H, Rps cm H dvs dds []) ∧ ps.length = n ∧ (∀ ds, ds.length ≠ n → Fn ds = .no) ∧ FnOk P w K mg base (L2.CX P w) k fa fd ps (spM cm n Fn)
/-- the last parameter by its name -/
structure MkKb (P : Program) (w : World) (K : PySem.W.Frag) (mg : Str → Option Value) (base : Heap) (cm : Md) (c : Str) (k n : Nat) (kw : Str) (Fn : List D → MX) : Prop where
  ex : ∃ (C fa : Addr) (fd : FuncData) (ps : List Str), mg c = some (.ref C) ∧ cm.cm c = some C ∧ Mk K C fa ∧ KBn K fd ps (n + 1) [kw] (fun us ws => us ++ ws) (fun vs zs => vs ++ zs) ∧ ps.length = n + 2 ∧ (∀ ds, ds.length ≠ n + 2 → Fn ds = .no) ∧ FnOk P w K mg base (L2.CX P w) k fa fd ps (spM cm (n + 2) Fn)
section
variable {X : Cx} {c : Cfg} {q qa qb qk : Q} {a b e ek : Expr} {es : List Expr} {p p2 pos pos' apos cpos : Pos} {f fk fv fo : Env → R D} {fp : Env → R (List Nat)} {fs : Env → R (List D)} {σ : L2.St} {H H1 : Hp} {ρ : Env} {own : Ow} {i : Nat} {x cn kw : Str}
theorem run_makeS {k : Nat} {fa C : Addr} {fd : FuncData} {ps : List Str} {sp : Sp} {dvs : List V} {ds : List Value} {E : XK} {pins : List (Addr × Obj)} {s : Shared} {Q : VK} {us : List Value} {vs : List V} (M : Mk X.K C fa) (F : FnOk X.prog X.w X.K X.mg X.base (L2.CX X.prog X.w) k fa fd ps sp) (hr : Room (k + 1) X.A) (hb : Binds X.K fd ps ds) (hd : Vals dvs ds)
    (hx : PassesAt (L2.CX X.prog X.w) X σ E) (I : Inv X pins σ H s) (r : Vals vs us)
    (h : ∀ x dx, H x = none → H dx = none → dx ≠ x → sp (.ref x :: (vs ++ dvs)) (upd (upd H dx (.own x)) x (.ins C dx [])) (fun v H2 => v = .non ∧ Q (.ref x) H2) E) :
    wpAny (model X.prog X.w) X.A (call (.ref C) us) (EP X pins σ Q) X.xe s := by
  have hq := h (s.heap.objs.size + 1) s.heap.objs.size (I.hok.fresh (Nat.le_succ _)) (I.hok.fresh (Nat.le_refl _)) (Nat.ne_of_lt (Nat.lt_succ_self _))
  have I2 := Inv.made (C := C) I
  have r2 : Vals (V.ref (s.heap.objs.size + 1) :: (vs ++ dvs)) (Value.ref (s.heap.objs.size + 1) :: (us ++ ds)) := .cons rfl (r.append hd)
  have hl : (Value.ref (s.heap.objs.size + 1) :: us ++ ds).length = ps.length := by
    have e := r2.length
    rw [F.len _ _ _ _ hq] at e
    exact e.symm
  refine wpAny_call (make_map (f := fa) I.kIn M.makes M.init (beq_iff_eq.mp M.fn) (codeAny_mono (F.run _ X.stack _ _ ⟨Value.ref (s.heap.objs.size + 1) :: us, []⟩ (Value.ref (s.heap.objs.size + 1) :: (us ++ ds)) _ _ E (hr.make C us [])
    (I2.env0.make C us []) (hb _ (Value.ref (s.heap.objs.size + 1) :: us) I2.kIn hl) r2 hq) fun r s' hq' => ?_))
  match r, hq' with
  | .error e, hq' => exact hx pins _ _ e s' I2 hq'
  | .ok (.ret u), hq' =>
    obtain ⟨v, H', I3, rv, ev, q3⟩ := I2.after hq'
    subst ev
    exact ⟨rv, ⟨V.ref (s.heap.objs.size + 1), H', I3, rfl, q3⟩⟩
  | .ok .next, hq' => exact False.elim hq'
  | .ok .brk, hq' => exact False.elim hq'
  | .ok .cont, hq' => exact False.elim hq'
theorem run_makeNS {k n : Nat} {fa C : Addr} {fd : FuncData} {ps ks : List Str} {sp : Sp} {E : XK} {pins : List (Addr × Obj)} {s : Shared} {Q : VK} {us ws : List Value} {vs zs : List V} {g : List Value → List Value → List Value} {gV : List V → List V → List V} (M : Mk X.K C fa) (F : FnOk X.prog X.w X.K X.mg X.base (L2.CX X.prog X.w) k fa fd ps sp) (hr : Room (k + 1) X.A) (hb : KBn X.K fd ps (n + 1) ks g gV)
    (hx : PassesAt (L2.CX X.prog X.w) X σ E) (I : Inv X pins σ H s) (r : Vals vs us) (rz : Vals zs ws) (l1 : vs.length = n) (l2 : zs.length = ks.length)
    (h : ∀ x dx, H x = none → H dx = none → dx ≠ x → sp (gV (.ref x :: vs) zs) (upd (upd H dx (.own x)) x (.ins C dx [])) (fun v H2 => v = .non ∧ Q (.ref x) H2) E) :
    wpAny (model X.prog X.w) X.A (call (.ref C) us (ks.zip ws)) (EP X pins σ Q) X.xe s := by
  have hq := h (s.heap.objs.size + 1) s.heap.objs.size (I.hok.fresh (Nat.le_succ _)) (I.hok.fresh (Nat.le_refl _)) (Nat.ne_of_lt (Nat.lt_succ_self _))
  have I2 := Inv.made (C := C) I
  have r1 : Vals (V.ref (s.heap.objs.size + 1) :: vs) (Value.ref (s.heap.objs.size + 1) :: us) := .cons rfl r
  have r2 := hb.rel r1 rz
  have e1 : (Value.ref (s.heap.objs.size + 1) :: us).length = n + 1 := r1.length.symm.trans (congrArg Nat.succ l1)
  have e2 : ws.length = ks.length := rz.length.symm.trans l2
  refine wpAny_call (make_map (f := fa) I.kIn M.makes M.init (beq_iff_eq.mp M.fn) (codeAny_mono (F.run _ X.stack _ _ ⟨Value.ref (s.heap.objs.size + 1) :: us, ks.zip ws⟩ (g (Value.ref (s.heap.objs.size + 1) :: us) ws) _ _ E (hr.make C us (ks.zip ws))
    (I2.env0.make C us (ks.zip ws)) (hb.to _ (Value.ref (s.heap.objs.size + 1) :: us) ws I2.kIn e1 e2) r2 hq) fun r s' hq' => ?_))
  match r, hq' with
  | .error e, hq' => exact hx pins _ _ e s' I2 hq'
  | .ok (.ret u), hq' =>
    obtain ⟨v, H', I3, rv, ev, q3⟩ := I2.after hq'
    subst ev
    exact ⟨rv, ⟨V.ref (s.heap.objs.size + 1), H', I3, rfl, q3⟩⟩
  | .ok .next, hq' => exact False.elim hq'
  | .ok .brk, hq' => exact False.elim hq'
  | .ok .cont, hq' => exact False.elim hq'
/-- what a making leaves to be shown -/
theorem make_core {P : VK} {Fn : List D → MX} {n : Nat} {C x dx : Addr} {vs : List V} {ds : List D} {G : List Addr} (hC : c.cm.cm cn = some C) (ln : ∀ ds, ds.length ≠ n → Fn ds = .no) (g : Gd c σ H ρ own) (s1 : Same H H1) (r1 : Rps c.cm H1 vs ds G) (nx : H1 x = none) (nd : H1 dx = none) (ne : dx ≠ x)
    (o : outR c (.n []) σ H own (Rp c.cm) (mkR (Fn (.ins cn [] [] :: ds))) P) : spM c.cm n Fn (.ref x :: vs) (upd (upd H1 dx (.own x)) x (.ins C dx [])) (fun v H2 => v = .non ∧ P (.ref x) H2) (WE c.W σ) := by
  have sm : Same H1 (upd (upd H1 dx (.own x)) x (.ins C dx [])) := fun b o hb => by
    have b1 : b ≠ x := fun e => by rw [e, nx] at hb; cases hb
    have b2 : b ≠ dx := fun e => by rw [e, nd] at hb; cases hb
    rw [upd_ne b1, upd_ne b2]; exact hb
  have g1 := g.same s1
  have len : (D.ins cn [] [] :: ds).length = n := Classical.byContradiction fun z => by rw [ln _ z] at o; exact o
  have rx : Rp c.cm (upd (upd H1 dx (.own x)) x (.ins C dx [])) (.ref x) (.ins cn [] []) [x] := .ins upd_same hC rfl .nil
  have nxG : x ∉ G := fun z => r1.trk x z nx
  have new1 : ∀ b, upd (upd H1 dx (.own x)) x (.ins C dx []) b = none → H b = none := fun b hb => s1.free (sm.free hb)
  refine ⟨by rw [List.length_cons, r1.length]; exact len, fun a hl => Same.dom sm a (g1.lk a hl).1, .ref x, vs, .ins cn [] [], [x], ds, G, rfl, rx, List.nodup_cons.mpr ⟨(fun h => nomatch h), List.nodup_nil⟩, fun a ha => by
    rw [List.mem_singleton] at ha
    subst ha
    exact ⟨g1.newLk nx, nxG⟩, r1.same sm, ?_⟩
  have back : ∀ {H' : Hp}, (∀ b o, upd (upd H1 dx (.own x)) x (.ins C dx []) b = some o → b ∉ [x] → H' b = some o) → Same H H' := fun keep b o hb => by
    have h1 := s1 b o hb
    refine keep b o (sm b o h1) fun z => ?_
    rw [List.mem_singleton] at z
    rw [z, nx] at h1; cases h1
  cases hF : Fn (.ins cn [] [] :: ds) with
  | no => rw [hF] at o; exact o
  | exc y ρ' =>
    rw [hF] at o
    exact fun C' dd H' L ec keep dom out => o C' dd H' ec (back keep)
  | ok d ρ' =>
    rw [hF] at o
    intro v H' G2 L keep dom out rG ndG hG
    cases d with
    | non =>
      cases rG
      refine ⟨rfl, ?_⟩
      have o : outR c (.n []) σ H own (Rp c.cm) (match ρ'[0]? with
        | some (some e) => .ok e
        | _ => .no) P := o
      cases h0 : ρ'[0]? with
      | none => rw [h0] at o; exact False.elim o
      | some w =>
        cases w with
        | none => rw [h0] at o; exact False.elim o
        | some e =>
          rw [h0] at o
          obtain ⟨r', nd', hL⟩ := out e h0
          refine o (.ref x) H' L (back keep) r' ⟨nd', fun a ha => .inl ?_⟩
          rcases hL a ha with z | z
          · rw [List.mem_singleton] at z
            rw [z]; exact s1.free nx
          · exact new1 a z
    | _ => exact False.elim o
theorem de_make {k k' n : Nat} {dds : List D} {Fn : List D → MX} (hT : MkTb X.prog X.w X.K X.mg X.base c.cm cn k n dds Fn) (hr : Room k' X.A) (hkk : k + 1 ≤ k') (tk : Takes X c.W) (hg : Gl X cn) (ha : DA X c qa (e :: es) fs)
    (hdb : (cn == ("__debug__" : Str)) = false) (he : starEach (e :: es) X.env = (false, eval e X.env) :: starEach es X.env) (hpl : (backTo pos (starEach es X.env)).any (·.1) = false) : DE X c (.n []) (.Call (.Name cn p) (e :: es) [] pos) (fMake cn Fn dds fs) := by
  obtain ⟨C, fa, fd, ps, ds, dvs, t1, t0, t2, t3, t4, t5, t6, t7, t8⟩ := hT.ex
  subst t6
  refine ⟨fun pins s σ H P I h => ?_⟩
  refine wpAny_Call_Name_kw (ld_glob I hg t1 ?_ hdb)
  obtain ⟨ρ, own, g, o⟩ := h
  have hh : rdL c qa fs σ H fun vs H1 => ∀ x dx, H1 x = none → H1 dx = none → dx ≠ x → spM c.cm ps.length Fn (.ref x :: (vs ++ dvs)) (upd (upd H1 dx (.own x)) x (.ins C dx [])) (fun v H2 => v = .non ∧ P (.ref x) H2) (WE c.W σ) :=
    ⟨ρ, own, g, outR.bind o fun ds' vs H1 F hd s1 r1 k1 o1 x dx nx nd ne => by
      have rr := r1.append (t5 H1)
      exact make_core t0 t7 g s1 rr nx nd ne o1⟩
  refine PySem.W.callWith_K (h₀ := X.base) I.ok.mod.kin t2.kp (thn (ha.run pos pins s σ H _ I hh) fun us s1 ⟨vs, H1, I1, r, q⟩ => ⟨I1.kIn, ?_⟩) he hpl
  exact run_makeS t2 t8 (hr.mono hkk) t3 t4 (passAt tk σ) I1 r q
theorem de_make0 {k k' n : Nat} {dds : List D} {Fn : List D → MX} (hT : MkTb X.prog X.w X.K X.mg X.base c.cm cn k n dds Fn) (hr : Room k' X.A) (hkk : k + 1 ≤ k') (tk : Takes X c.W) (hg : Gl X cn)
    (hdb : (cn == ("__debug__" : Str)) = false) : DE X c (.n []) (.Call (.Name cn p) [] [] pos) (fMake cn Fn dds fNil) := by
  obtain ⟨C, fa, fd, ps, ds, dvs, t1, t0, t2, t3, t4, t5, t6, t7, t8⟩ := hT.ex
  subst t6
  refine ⟨fun pins s σ H P I h => ?_⟩
  refine wpAny_Call_Name_kw (ld_glob I hg t1 ?_ hdb)
  obtain ⟨ρ, own, g, o⟩ := h
  exact PySem.W.callWith_K0 I.kIn t2.kp (run_makeS (us := []) (vs := []) t2 t8 (hr.mono hkk) t3 t4 (passAt tk σ) I .nil fun x dx nx nd ne => make_core t0 t7 g (Same.refl H) (t5 H) nx nd ne o)
theorem de_makeK {k k' n : Nat} {Fn : List D → MX} {kpos : Pos} (hT : MkKb X.prog X.w X.K X.mg X.base c.cm cn k n kw Fn) (hr : Room k' X.A) (hkk : k + 1 ≤ k') (tk : Takes X c.W) (hg : Gl X cn) (ha : DA X c qa (e :: es) fs) (hv : DE X c qk ek fk)
    (hdb : (cn == ("__debug__" : Str)) = false) (he : starEach (e :: es) X.env = (false, eval e X.env) :: starEach es X.env)
    (hall : (backToKw pos (keywordEach [⟨some kw, ek, kpos⟩] X.env)).all (·.1.isSome) = true) (hks : (backToKw pos (keywordEach [⟨some kw, ek, kpos⟩] X.env)).filterMap (·.1) = [kw])
    (hpl : ((backTo pos (starEach (e :: es) X.env)).any (·.1) || (backToKw pos (keywordEach [⟨some kw, ek, kpos⟩] X.env)).any (·.1.isNone)) = false) : DE X c (.n []) (.Call (.Name cn p) (e :: es) [⟨some kw, ek, kpos⟩] pos) (fMakeK cn Fn fs fk) := by
  obtain ⟨C, fa, fd, ps, t1, t0, t2, t3, t6, t7, t8⟩ := hT.ex
  refine ⟨fun pins s σ H P I h => ?_⟩
  refine wpAny_Call_Name_kw (ld_glob I hg t1 ?_ hdb)
  obtain ⟨ρ, own, g, o⟩ := h
  have hh : rdL c qa fs σ H fun vs H1 => (tCons (rd c qk fk) tNil) σ H1 fun zs H2 => vs.length = n ∧ zs.length = [kw].length ∧ ∀ x dx, H2 x = none → H2 dx = none → dx ≠ x → spM c.cm (n + 2) Fn (.ref x :: (vs ++ zs)) (upd (upd H2 dx (.own x)) x (.ins C dx [])) (fun v H3 => v = .non ∧ P (.ref x) H3) (WE c.W σ) :=
    ⟨ρ, own, g, outR.bind o fun ds' vs H1 F hd s1 r1 k1 o1 => ⟨ρ, own, g.same s1, outR.bind (o1.later s1) fun d z H2 G hd2 s2 r2 k2 o2 => by
      have len : (D.ins cn [] [] :: (ds' ++ [d])).length = n + 2 := Classical.byContradiction fun w => by
        rw [t7 _ w] at o2; exact o2
      have rr := (r1.same s2).append (.one r2)
      have lv : vs.length = n := by
        rw [r1.length]
        simp at len
        omega
      rw [hd2] at o1
      exact ⟨lv, rfl, fun x dx nx nd ne => make_core t0 t7 g (s1.trans s2) rr nx nd ne o1⟩⟩⟩
  refine PySem.W.callWith_KW (h₀ := X.base) I.ok.mod.kin t2.kp hall (thn (ha.run pos pins s σ H _ I hh) fun us s1 ⟨vs, H1, I1, r, q⟩ => ?_) hpl he
  refine thn ((pk_cons (nm := some kw) hv pk_nil).run pos pins s1 σ H1 _ I1 q) fun ws s2 ⟨zs, H2, I2, rz, l1, l2, q2⟩ => ⟨I2.kIn, ?_⟩
  rw [hks]
  exact run_makeNS t2 t8 (hr.mono hkk) t3 (passAt tk σ) I2 r rz l1 l2 q2
end
/-! ### in short -/
section
variable {X : Cx} {c : Cfg} {q qa qb qk qo : Q} {a b e ek eo : Expr} {es : List Expr} {p p2 pos pos' apos cpos kpos : Pos} {f fk fv fo : Env → R D} {fp : Env → R (List Nat)} {fs : Env → R (List D)} {i k k' n : Nat} {x cn kw fn m : Str} {cl : List Str} {dds : List D} {tb : Str → Option (List D → R D)} {Fn : List D → MX} {fr : Bool}
theorem fld (hT : FldTb X.K X.mg fn cl) (he : DE X c q e f) (hcm : ∀ y C, c.cm.cm y = some C → X.mg y = some (.ref C) := by exact fun _ _ h => cmOf_cm h) (hb : attributeBase e fn X.env (eval e X.env) = eval e X.env := by rfl) : DE X c q (.Attribute e fn pos) (f1 (fldD cl fn) f) := de_fld hT hcm he hb
theorem pfld (hT : FldTb X.K X.mg fn cl) (ha : DP X c i e fp) (hcm : ∀ y C, c.cm.cm y = some C → X.mg y = some (.ref C) := by exact fun _ _ h => cmOf_cm h) (hb : attributeBase e fn X.env (eval e X.env) = eval e X.env := by rfl) : DP X c i (.Attribute e fn pos) (pFld i fp cl fn) := dp_fld hT hcm ha hb
theorem setfld (hT : FldTb X.K X.mg fn cl) (ha : DP X c i a fp) (hv : DE X c (.n []) e fv) (hk : c.kd i = .m := by rfl) (hcm : ∀ y C, c.cm.cm y = some C → X.mg y = some (.ref C) := by exact fun _ _ h => cmOf_cm h) (hs : swapsWith e (some (.Attribute a fn pos')) pos.line X.env = pure false := by rfl) : DS X c (.Assign [.Attribute a fn pos'] e pos) (sPutF i fp cl fn fv) := ds_fld hT hcm hk ha hv hs
theorem meth {pl : Sem Bool} (hT : MeTb X.prog X.w X.K X.mg X.base c.cm m k fr n dds tb) (hr : Room k' X.A) (hkk : k ≤ k') (tk : Takes X c.W) (hq : Qc fr qk q) (j : Qj qo qa qk) (he : DE X c qo eo fo) (ha : DA X c qa (e :: es) fs) (hcm : ∀ y C, c.cm.cm y = some C → X.mg y = some (.ref C) := by exact fun _ _ h => cmOf_cm h)
    (hst : starEach (e :: es) X.env = (false, eval e X.env) :: starEach es X.env := by rfl) (hpl : (backTo pos (starEach es X.env)).any (·.1) = false := by rfl)
    (ht : eval (.Call (.Attribute eo m apos) (e :: es) [] pos) X.env = (do
      let ov ← eval eo X.env
      standAt apos.atName
      let (f, first) ← holding [ov] (getMethod ov m pl)
      callWith pos f first (backTo pos (starEach (e :: es) X.env)) (backToKw pos (keywordEach [] X.env))) := by rfl) : DE X c q (.Call (.Attribute eo m apos) (e :: es) [] pos) (fMeth m tb dds fo fs) := de_meth hT hr hkk tk hcm hq j he ha hst hpl ht
theorem meth0 {pl : Sem Bool} (hT : MeTb X.prog X.w X.K X.mg X.base c.cm m k fr n dds tb) (hr : Room k' X.A) (hkk : k ≤ k') (tk : Takes X c.W) (hq : Qc fr qk q) (j : Qj qo (.n []) qk) (he : DE X c qo eo fo) (hcm : ∀ y C, c.cm.cm y = some C → X.mg y = some (.ref C) := by exact fun _ _ h => cmOf_cm h)
    (ht : eval (.Call (.Attribute eo m apos) [] [] pos) X.env = (do
      let ov ← eval eo X.env
      standAt apos.atName
      let (f, first) ← holding [ov] (getMethod ov m pl)
      callWith pos f first (backTo pos (starEach [] X.env)) (backToKw pos (keywordEach [] X.env))) := by rfl) : DE X c q (.Call (.Attribute eo m apos) [] [] pos) (fMeth m tb dds fo fNil) := de_meth0 hT hr hkk tk hcm hq j he ht
theorem make (hT : MkTb X.prog X.w X.K X.mg X.base c.cm cn k n dds Fn) (hr : Room k' X.A) (hkk : k + 1 ≤ k') (tk : Takes X c.W) (ha : DA X c qa (e :: es) fs) (hg : Gl X cn := by rfl)
    (hdb : (cn == ("__debug__" : Str)) = false := by decide) (he : starEach (e :: es) X.env = (false, eval e X.env) :: starEach es X.env := by rfl) (hpl : (backTo pos (starEach es X.env)).any (·.1) = false := by rfl) : DE X c (.n []) (.Call (.Name cn p) (e :: es) [] pos) (fMake cn Fn dds fs) := de_make hT hr hkk tk hg ha hdb he hpl
theorem make0 (hT : MkTb X.prog X.w X.K X.mg X.base c.cm cn k n dds Fn) (hr : Room k' X.A) (hkk : k + 1 ≤ k') (tk : Takes X c.W) (hg : Gl X cn := by rfl)
    (hdb : (cn == ("__debug__" : Str)) = false := by decide) : DE X c (.n []) (.Call (.Name cn p) [] [] pos) (fMake cn Fn dds fNil) := de_make0 hT hr hkk tk hg hdb
theorem makeK (hT : MkKb X.prog X.w X.K X.mg X.base c.cm cn k n kw Fn) (hr : Room k' X.A) (hkk : k + 1 ≤ k') (tk : Takes X c.W) (ha : DA X c qa (e :: es) fs) (hv : DE X c qk ek fk) (hg : Gl X cn := by rfl)
    (hdb : (cn == ("__debug__" : Str)) = false := by decide) (he : starEach (e :: es) X.env = (false, eval e X.env) :: starEach es X.env := by rfl)
    (hall : (backToKw pos (keywordEach [⟨some kw, ek, kpos⟩] X.env)).all (·.1.isSome) = true := by rfl) (hks : (backToKw pos (keywordEach [⟨some kw, ek, kpos⟩] X.env)).filterMap (·.1) = [kw] := by rfl)
    (hpl : ((backTo pos (starEach (e :: es) X.env)).any (·.1) || (backToKw pos (keywordEach [⟨some kw, ek, kpos⟩] X.env)).any (·.1.isNone)) = false := by rfl) : DE X c (.n []) (.Call (.Name cn p) (e :: es) [⟨some kw, ek, kpos⟩] pos) (fMakeK cn Fn fs fk) := de_makeK hT hr hkk tk hg ha hv hdb he hall hks hpl
end
end Pd
set_option Elab.async false
set_option linter.all false
set_option maxRecDepth 100000
set_option maxHeartbeats 4000000
namespace Pd
open PySem PySem.Spec PyProof.Rows L2
/-! ### methods, class by class -/
section
variable {P : Program} {w : World} {K : PySem.W.Frag} {mg : Str → Option Value} {base : Heap} {cm : Md} {y m : Str} {k k' n : Nat} {fr : Bool} {dds : List D} {Fn : List D → R D} {tb : Str → Option (List D → R D)}
structure MeE (P : Program) (w : World) (K : PySem.W.Frag) (mg : Str → Option Value) (base : Heap) (cm : Md) (y m : Str) (k : Nat) (fr : Bool) (n : Nat) (dds : List D) (Fn : List D → R D) : Prop where
  ex : ∃ (C fa : Addr) (fd : FuncData) (ps : List Str) (ds : List Value) (dvs : List V), mg y = some (.ref C) ∧ Cls K C ∧ Meth K C m fa ∧ Binds K fd ps ds ∧ Vals dvs ds ∧ (∀ H, Rps cm H dvs dds []) ∧ ps.length = n ∧ ((∀ ds' d, Fn ds' = .ok d → ds'.length = n) ∧ ∀ ds' d, Fn ds' = .exc d → ds'.length = n) ∧ FnOk P w K mg base (L2.CX P w) k fa fd ps (spD cm n fr Fn)
def tb0 : Str → Option (List D → R D) := fun _ => none
def tbc (y : Str) (Fn : List D → R D) (tb : Str → Option (List D → R D)) : Str → Option (List D → R D) := fun c => if c = y then some Fn else tb c
theorem MeTb.nil : MeTb P w K mg base cm m k fr n dds tb0 := ⟨fun c Fn h => nomatch h⟩
theorem MeTb.cons (e : MeE P w K mg base cm y m k' fr n dds Fn) (hk : k' ≤ k) (t : MeTb P w K mg base cm m k fr n dds tb) : MeTb P w K mg base cm m k fr n dds (tbc y Fn tb) := ⟨fun c F h => by
  unfold tbc at h
  split at h
  · rename_i q
    cases h
    subst q
    obtain ⟨C, fa, fd, ps, ds, dvs, h1, h2, h3, h4, h5, h6, h7, h8, h9⟩ := e.ex
    exact ⟨C, fa, fd, ps, ds, dvs, h1, h2, h3, h4, h5, h6, h7, h8, h9.mono hk⟩
  · exact t.ex c F h⟩
theorem MeTb.one (e : MeE P w K mg base cm y m k fr n dds Fn) : MeTb P w K mg base cm m k fr n dds (tbc y Fn tb0) := .cons e (Nat.le_refl _) .nil
/-- a method of one piece of data, told -/
def mTb (m : Str) (tb : Str → Option (List D → R D)) (dds : List D) (d : D) (r : R (List D)) : R D := match d with
  | .ins c ns _ => (match tb c with
    | some Fn => if inCl ns m = true then .no else r.bind fun ds => Fn (d :: (ds ++ dds))
    | none => .no)
  | _ => .no
theorem fMeth_eq {fo : Env → R D} {fs : Env → R (List D)} {ρ : Env} : fMeth m tb dds fo fs ρ = (fo ρ).bind fun d => mTb m tb dds d (fs ρ) := by
  unfold fMeth
  cases fo ρ with
  | ok d => cases d <;> rfl
  | exc x => rfl
  | no => rfl
end
theorem bnd0 {K : PySem.W.Frag} {fd : FuncData} {ps : List Str} (h : ∃ ds, Vals [] ds ∧ Binds K fd ps ds) : Binds K fd ps [] := by
  obtain ⟨ds, h1, h2⟩ := h
  cases h1
  exact h2
/-- a def whose last values are left out -/
structure FDd (P : Program) (w : World) (K : PySem.W.Frag) (mg : Str → Option Value) (base : Heap) (cm : Md) (x : Str) (k : Nat) (ps : List Str) (fr : Bool) (np nN : Nat) (dds : List D) (g : Env → SR) : Prop where
  ex : ∃ (fa : Addr) (fd : FuncData) (ds : List Value) (dvs : List V), mg x = some (.ref fa) ∧ PySem.W.keepIn K (.ref fa) = true ∧ Binds K fd ps ds ∧ Vals dvs ds ∧ (∀ H, Rps cm H dvs dds []) ∧ ps.length = np ∧ FnOk P w K mg base (L2.CX P w) k fa fd ps (spD cm ps.length fr (callD np nN g))
section
variable {X : Cx} {c : Cfg} {q qa : Q} {e : Expr} {es : List Expr} {p pos : Pos} {fs : Env → R (List D)} {x : Str} {g : Env → SR}
theorem cFDd {k k' : Nat} {ps : List Str} {fr : Bool} {np nN : Nat} {dds : List D} (F : FDd X.prog X.w X.K X.mg X.base c.cm x k ps fr np nN dds g) (hr : Room k' X.A) (hkk : k ≤ k') (tk : Takes X c.W) (hq : Qc fr qa q) (hg : Gl X x) (ha : DA X c qa (e :: es) fs)
    (hdb : (x == ("__debug__" : Str)) = false := by decide) (he : starEach (e :: es) X.env = (false, eval e X.env) :: starEach es X.env := by rfl) (hpl : (backTo pos (starEach es X.env)).any (·.1) = false := by rfl) :
    DE X c q (.Call (.Name x p) (e :: es) [] pos) (fCall (callD np nN g) dds fs) := by
  obtain ⟨fa, fd, ds, dvs, h1, h2, h3, h4, h5, h6, h7⟩ := F.ex
  subst h6
  exact de_call h7 (hr.mono hkk) hg h1 h2 h3 h4 h5 ln_callD tk hq ha hdb he hpl
end
theorem fldTb_of {K : PySem.W.Frag} {mg : Str → Option Value} {f : Str} {cl : List Str} (h : ∀ c ∈ cl, ∃ C, mg c = some (.ref C) ∧ Cls K C ∧ NoAttr K C f) : FldTb K mg f cl := ⟨fun c hc C hC => by
  obtain ⟨C', h1, h2, h3⟩ := h c hc
  rw [h1] at hC
  cases hC
  exact ⟨h2, h3⟩⟩
end Pd
set_option Elab.async false
set_option linter.all false
set_option maxRecDepth 100000
set_option maxHeartbeats 4000000
namespace Pd
open PySem PySem.Spec PyProof.Rows L2
/-! ### built-in calls whose value is wholly new -/
def resN (c : Cfg) (H : Hp) (r : Option D) (P : VK) : Prop := match r with
  | some d => ∀ v H' G, Same H H' → Rp c.cm H' v d G → G.Nodup → (∀ a ∈ G, H a = none) → P v H'
  | none => False
abbrev rMtN (c : Cfg) (s : List D → Option D) : List V → Hp → VK → Prop := fun xs H P => ∃ ds F, Rps c.cm H xs ds F ∧ resN c H (s ds) P
def CallDN (X : Cx) (c : Cfg) (f : Value) (s : List D → Option D) : Prop := CallR X f (rMtN c s)
section
variable {X : Cx} {c : Cfg} {q q1 qa : Q} {a b e : Expr} {es : List Expr} {p pos p2 pos2 apos cpos : Pos} {f fa fb : Env → R D} {fs : Env → R (List D)} {x : Str} {s : List D → Option D} {σ : L2.St} {H H1 : Hp} {ρ : Env} {own : Ow} {P : VK} {id T : String}
theorem resN_of {r : Option D} {d : D} (g : Gd c σ H ρ own) (s1 : Same H H1) (o : outR c (.n []) σ H own (Rp c.cm) (ofO r) P) : resN c H1 r P := by
  unfold resN
  cases r with
  | none => exact o
  | some d => exact fun v H' G s2 r2 nd hG => o v H' G (s1.trans s2) r2 ⟨nd, fun a ha => .inl (s1.free (hG a ha))⟩
theorem callSN_core (h : rd c (.n []) (fS s fs) σ H P) : tCB (rMtN c s) (rdL c qa fs) σ H P := by
  obtain ⟨ρ, own, g, o⟩ := h
  exact ⟨ρ, own, g, outR.bind o fun ds vs H1 F hd s1 r1 k1 o1 => ⟨ds, F, r1, resN_of (d := .non) g s1 o1⟩⟩
theorem cBN (hc : CallDN X c (.builtin id) s) (hg : Gl X x) (hm : X.mg x = none) (hv : bootBuiltins x = some (.builtin id)) (ha : DA X c qa (e :: es) fs) (hn : x ≠ "__name__" := by decide) (hdb : (x == ("__debug__" : Str)) = false := by decide)
    (he : starEach (e :: es) X.env = (false, eval e X.env) :: starEach es X.env := by rfl) (hpl : (backTo pos (starEach es X.env)).any (·.1) = false := by rfl) : DE X c (.n []) (.Call (.Name x p) (e :: es) [] pos) (fS s fs) :=
  PE.imp (pe_callB hc hg hm hv ha hn hdb he hpl) fun σ H P h => callSN_core h
theorem cTN (hc : CallDN X c (.type T) s) (hg : Gl X x) (hm : X.mg x = none) (hv : bootBuiltins x = some (.type T)) (ha : DA X c qa (e :: es) fs) (hn : x ≠ "__name__" := by decide) (hdb : (x == ("__debug__" : Str)) = false := by decide)
    (he : starEach (e :: es) X.env = (false, eval e X.env) :: starEach es X.env := by rfl) (hpl : (backTo pos (starEach es X.env)).any (·.1) = false := by rfl) : DE X c (.n []) (.Call (.Name x p) (e :: es) [] pos) (fS s fs) :=
  PE.imp (pe_callTy hc hg hm hv ha hn hdb he hpl) fun σ H P h => callSN_core h
theorem resN.lst {ys : List D} {vs : List V} {pp : Addr} (h : resN c H (some (.lst ys)) P) (hp : H pp = none) (r : Rps c.cm H vs ys []) : P (.ref pp) (upd H pp (.lst vs)) :=
  h _ _ [pp] (upd_newSame hp) (.lst upd_same (r.same (upd_newSame hp))) (List.nodup_cons.mpr ⟨(fun z => nomatch z), List.nodup_nil⟩) fun z hz => by
    rw [List.mem_singleton] at hz
    subst hz
    exact hp
end
end Pd
set_option Elab.async false
set_option linter.all false
set_option maxRecDepth 100000
set_option maxHeartbeats 4000000
namespace Pd
open PySem PySem.Spec PyProof.Rows L2
open PySem.W (dataLt alike AlikeAll)
/-! ### sorted(xs) -/
def tupC : D → Bool
  | .tup (_ :: _) => true
  | _ => false
def ntup : D → Bool
  | .tup _ => false
  | .non => false
  | _ => true
def okSrt (xs : List D) : Bool := (xs.all fun x => shal x 12 && imm x) && ((xs.all fun x => xs.all fun y => alike (toP x) (toP y)) && ((xs.all tupC) || xs.all ntup))
def sortL (xs : List D) : List D := xs.mergeSort (fun a b => !dataLt (toP b) (toP a))
/-- what list(..), sorted(..) take out of it -/
def outs : D → Option (List D)
  | .dK ks _ => some (ks.map kD)
  | .dT ks _ => some (ks.map tkD)
  | d => itmL d
def sortS : List D → Option D
  | [d] => match outs d with
    | some xs => if okSrt xs = true then some (.lst (sortL xs)) else none
    | none => none
  | _ => none
theorem okSrt_ok {xs : List D} (h : okSrt xs = true) : (∀ x ∈ xs, shal x 12 = true ∧ imm x = true) ∧ (∀ x ∈ xs, ∀ y ∈ xs, alike (toP x) (toP y) = true) ∧ PySem.W.Sortable (xs.map toP) := by
  unfold okSrt at h
  simp only [Bool.and_eq_true, Bool.or_eq_true, List.all_eq_true] at h
  refine ⟨fun x hx => h.1 x hx, fun x hx y hy => h.2.1 x hx y hy, ?_⟩
  rcases h.2.2 with h2 | h2
  · refine .inl fun d hd => ?_
    obtain ⟨x, hx, rfl⟩ := List.mem_map.mp hd
    have := h2 x hx
    cases x with
    | tup ys =>
      cases ys with
      | nil => cases this
      | cons y ys => exact ⟨toP y, toPs ys, by rw [toP, toPs]⟩
    | _ => cases this
  · refine .inr fun d hd => ?_
    obtain ⟨x, hx, rfl⟩ := List.mem_map.mp hd
    have h3 := h2 x hx
    have h4 := (h.1 x hx).1
    have h5 := (h.1 x hx).2
    cases x with
    | tup ys => cases h3
    | non => cases h3
    | bl b => exact ⟨(by simp [toP]), by simp [toP]⟩
    | int b => exact ⟨(by simp [toP]), by simp [toP]⟩
    | str b => exact ⟨(by simp [toP]), by simp [toP]⟩
    | exc b => simp [shal] at h4
    | lst b => simp [Pd.imm] at h5
    | fz b => simp [shal] at h4
    | dK b c => simp [Pd.imm] at h5
    | dT b c => simp [Pd.imm] at h5
    | ins b c d => simp [Pd.imm] at h5
mutual
theorem reads_imm {h : Heap} : ∀ (d : D) (u : Value) (as : List Addr), imm d = true → Reads h u (toP d) as → as = []
  | .tup xs, u, as, hi, r => by
    rw [toP] at r
    cases r with
    | tuple h1 h2 h3 h4 => exact reads_immL xs _ _ (by simpa [Pd.imm] using hi) h4
  | .lst xs, u, as, hi, r => by simp [Pd.imm] at hi
  | .fz xs, u, as, hi, r => by rw [toP] at r; cases r; rfl
  | .bl b, u, as, hi, r => by rw [toP] at r; cases r; rfl
  | .int b, u, as, hi, r => by rw [toP] at r; cases r; rfl
  | .str b, u, as, hi, r => by rw [toP] at r; cases r; rfl
  | .non, u, as, hi, r => by rw [toP] at r; cases r; rfl
  | .dK _ _, u, as, hi, r => by simp [Pd.imm] at hi
  | .dT _ _, u, as, hi, r => by simp [Pd.imm] at hi
  | .ins _ _ _, u, as, hi, r => by simp [Pd.imm] at hi
  | .exc _, u, as, hi, r => by rw [toP] at r; cases r; rfl
theorem reads_immL {h : Heap} : ∀ (ds : List D) (us : List Value) (as : List Addr), immAll ds = true → ReadsAll h us (toPs ds) as → as = []
  | [], us, as, hi, r => by rw [toPs] at r; cases r; rfl
  | d :: ds, us, as, hi, r => by
    rw [toPs] at r
    simp only [immAll, Bool.and_eq_true] at hi
    cases r with
    | cons h1 h2 => rw [reads_imm d _ _ hi.1 h1, reads_immL ds _ _ hi.2 h2]; rfl
end
/-- an item's value, as data -/
def RvD (cm : Md) (H : Hp) (u : Value) (d : D) : Prop := ∃ x, RelV x u ∧ Rp cm H x d []
theorem each_of {cm : Md} {H : Hp} : ∀ {vs : List V} {us : List Value} {ds : List D} {F : List Addr}, Vals vs us → Rps cm H vs ds F → (∀ d ∈ ds, imm d = true) → PySem.W.EachIs (RvD cm H) us ds
  | [], us, ds, F, v, r, hi => by cases v; cases r; exact .nil
  | x :: vs, us, ds, F, v, r, hi => by
    cases v with
    | cons v1 v2 =>
      cases r with
      | cons r1 r2 =>
        have e := r1.imm (hi _ List.mem_cons_self)
        subst e
        exact .cons ⟨x, v1, r1⟩ (each_of v2 r2 fun d hd => hi d (List.mem_cons_of_mem _ hd))
theorem of_each {cm : Md} {H : Hp} : ∀ {us : List Value} {ds : List D}, PySem.W.EachIs (RvD cm H) us ds → ∃ vs, Vals vs us ∧ Rps cm H vs ds []
  | _, _, .nil => ⟨[], .nil, .nil⟩
  | _, _, .cons ⟨x, h1, h2⟩ t => by
    obtain ⟨vs, h3, h4⟩ := of_each t
    exact ⟨x :: vs, .cons h1 h3, by have := Rps.cons h2 h4; simpa using this⟩
section
variable {X : Cx} {c : Cfg} {pins : List (Addr × Obj)} {σ : L2.St} {H : Hp} {s : Shared}
theorem each_reads {us : List Value} {ds : List D} (I : Inv X pins σ H s) (h : PySem.W.EachIs (RvD c.cm H) us ds) (hs : ∀ d ∈ ds, shal d 12 = true ∧ imm d = true) : PySem.W.EachIs (fun v b => Reads s.heap v (toP b) []) us ds := by
  induction h with
  | nil => exact .nil
  | @cons u d us ds h1 h2 ih =>
    obtain ⟨x, r1, r2⟩ := h1
    have h3 := hs d List.mem_cons_self
    obtain ⟨as, r⟩ := Dp.reads I _ _ u (r2.dp h3.1) r1
    have e := reads_imm d u as h3.2 r
    subst e
    exact .cons r (ih fun d hd => hs d (List.mem_cons_of_mem _ hd))
theorem rps_tkeys {cm : Md} : ∀ {kvs : List (List Key × V)} {bs : List Addr}, IsKeys H kvs bs → Rps cm H (bs.map V.ref) ((kvs.map (·.1)).map tkD) []
  | [], bs, h => by cases h; exact .nil
  | p :: kvs, bs, h => by
    cases h with
    | @cons _ b _ bs h1 h2 =>
      have r1 : Rp cm H (.ref b) (tkD p.1) [] := .tup h1 (rps_key p.1)
      have := Rps.cons r1 (rps_tkeys h2)
      simpa using this
/-- sorted of what gives its items one by one -/
theorem sorted_src {T : String} {r d : Addr} {n : Nat} {P : Nat → Value → Prop} {OK : Heap → Prop} {ys : List D} {Q : Value → Shared → Prop} (K : PySem.W.KdlSrc X.prog X.w T r d n P OK) (hc : X.calm = true) (hu : X.A.units + 64 < cLine) (I : Inv X pins σ H s) (hok : OK s.heap) (hn : n ≤ sizeLine)
    (conv : ∀ acc : Array Value, ItemsOf P acc n → ∃ vs F, Vals vs acc.toList ∧ Rps c.cm H vs ys F) (hy : okSrt ys = true)
    (h : ∀ p h' tk vs', H p = none → Rps c.cm H vs' (sortL ys) [] → Inv X pins σ (upd H p (.lst vs')) { s with heap := h', toks := tk } → Q (.ref p) { s with heap := h', toks := tk }) : wpAny (model X.prog X.w) X.A (call (.builtin "sorted") [.ref r]) Q X.xe s := by
  obtain ⟨hs, hal0, hk⟩ := okSrt_ok hy
  have hal : PySem.W.AllAlike (ys.map toP) := by
    intro d hd d' hd'
    obtain ⟨x, hx, rfl⟩ := List.mem_map.mp hd
    obtain ⟨y, hy, rfl⟩ := List.mem_map.mp hd'
    exact hal0 x hx y hy
  refine PySem.Calls.call_function_entry kind_sorted plain_sorted entry_sorted (args_sorted1 _) ?_
  unfold Builtin.«sorted»
  refine wpAny_bind (m := checkCount "sorted" 1 1 _) (wpAny_pure ?_)
  refine wpAny_bind (PySem.W.kdu_collect (A := X.A.in1) K (I.ok.hd hc) hok hn fun h' tk acc hkp hacc => ?_)
  obtain ⟨vs, F, rv, rr⟩ := conv acc hacc
  have hl : acc.toList.length ≤ sizeLine := by rw [Array.length_toList, hacc.1]; exact hn
  refine wpAny_bind (wpAny_newList ?_ hl)
  have I1 : Inv X pins σ H { s with heap := h', toks := tk } := I.kept hkp
  have e1 := each_of rv rr fun d hd => (hs d hd).2
  have er := each_reads (c := c) I1 e1 hs
  have hkp2 : ∀ b o, h'.get? b = some o → (h'.push (seqObj "list" acc.toList.toArray 0)).get? b = some o := fun b o e => Heap.get?_push_of_some _ e
  have hget : (h'.push (seqObj "list" acc.toList.toArray 0)).get? h'.objs.size = some (seqObj "list" acc.toList.toArray 0) := Heap.get?_push_size _ rfl
  refine wpAny_bind (wpAny_holding ?_)
  refine PySem.W.list_sort_data (enc := toP) (s := { s with heap := h'.push (seqObj "list" acc.toList.toArray 0), toks := tk }) (n := 0) hget e1 (er.mono fun v b r => ⟨[], PyProof.Rows.Reads.keeps hkp2 r, fun z => nomatch z⟩) hal hk (by rw [← e1.length]; exact hl) (fun b hb => ?_) fun out hlen eo => ?_
  · have := (shal_ok b 12 (hs b hb).1).2
    have e9 : X.A.in1.units = X.A.units + 1 := rfl
    omega
  · obtain ⟨vs', h3, h4⟩ := of_each eo
    obtain ⟨ep, he'⟩ := PyProof.Rows.sortedHeap_at (out := out.toArray) hget
    have hp : H h'.objs.size = none := I1.hok.fresh (Nat.le_refl _)
    refine wpAny_pure ⟨_, rfl, h _ _ _ vs' hp h4 (I1.laid (t' := tk) (fun b o e => ?_) (Nat.le_refl _) ⟨?_, out, ep, h3, he'⟩)⟩
    · exact (PyProof.Rows.sortedHeap_old (Nat.ne_of_lt (Heap.lt_size e)) (Heap.lt_size (hkp2 b o e))).trans (hkp2 b o e)
    · rw [h3.length, hlen, ← e1.length]; exact hl
theorem cd_sorted (hK : c.cm.K = X.K) (hc : X.calm = true) (hu : X.A.units + 64 < cLine) : CallDN X c (.builtin "sorted") sortS := by
  intro pins s σ H xs us P I rx h
  obtain ⟨ds, F, r, h⟩ := h
  unfold sortS at h
  split at h
  · rename_i d
    obtain ⟨v, rfl, r1⟩ := r.one_inv
    obtain ⟨u, rfl, ru⟩ := rx.one
    cases ho : outs d with
    | none => rw [ho] at h; exact False.elim h
    | some ys =>
      rw [ho] at h
      by_cases hok : okSrt ys = true
      case neg => simp only [if_neg hok] at h; exact False.elim h
      simp only [if_pos hok] at h
      obtain ⟨hs, hal0, hk⟩ := okSrt_ok hok
      have hal : PySem.W.AllAlike (ys.map toP) := by
        intro d hd d' hd'
        obtain ⟨x, hx, rfl⟩ := List.mem_map.mp hd
        obtain ⟨y, hy, rfl⟩ := List.mem_map.mp hd'
        exact hal0 x hx y hy
      have hdep : ∀ b ∈ ys, X.A.units + 2 + (toP b).depth < cLine := fun b hb => by
        have := (shal_ok b 12 (hs b hb).1).2
        omega
      by_cases hd : ∃ zs, itmL d = some zs
      · obtain ⟨zs, hz⟩ := hd
        have e : zs = ys := by
          cases d <;> simp [outs, itmL] at ho hz <;> first | exact hz.symm.trans ho | (cases ho) | skip
        subst e
        obtain ⟨a, vs, G, rfl, hq, sl, rr⟩ := r1.seqL hz
        rw [hK] at hq
        cases ru
        obtain ⟨its, rl, pl, hz2⟩ := I.list hq
        have e1 := each_of rl rr fun d hd => (hs d hd).2
        have er := each_reads (c := c) I e1 hs
        refine PySem.W.sorted_data (enc := toP) pl.isList (vs := its) e1 (er.mono fun _ _ r => ⟨_, r⟩) hal hk (by rw [← e1.length, ← rl.length]; exact hz2) hdep fun out hlen eo => ?_
        obtain ⟨vs', h3, h4⟩ := of_each eo
        obtain ⟨ep, he'⟩ := PyProof.Rows.sortedAll_at s.heap its out.toArray
        have hp : H (s.heap.objs.size + 1) = none := I.hok.fresh (Nat.le_succ _)
        have sm := upd_newSame (o := .lst vs') hp
        refine ⟨.ref _, upd H (s.heap.objs.size + 1) (.lst vs'), I.laid (t' := s.toks) (fun _ _ => PyProof.Rows.sortedAll_old) (Nat.le_succ _) ⟨?_, out, ep, h3, he'⟩, rfl, ?_⟩
        · rw [h3.length, hlen, ← e1.length, ← rl.length]; exact hz2
        · exact h.lst hp h4
      · have hq : ∀ (b : Addr) (hp : H b = none) (vs' : List V), Rps c.cm H vs' (sortL ys) [] → P (.ref b) (upd H b (.lst vs')) := fun b hp vs' r4 => h.lst hp r4
        cases d with
        | dK kk vv =>
          cases ho
          cases r1 with
          | @dK a kvs _ _ G e1 e2 rr =>
          cases ru
          obtain ⟨z, lo, vs, rel, dd⟩ := dk_rd I.hok e1.rd
          obtain ⟨ep, hat⟩ := dd.dictAt
          refine sorted_src (c := c) (ys := kk.map kD) (PySem.W.kdl_dict (knd := mixKind X.prog X.w) (kvs := vs) (ep := ep) lo) hc hu I hat (by rw [← rel.length]; exact z) (fun acc hacc => ?_) hok fun p h' tk vs' hp r4 I4 => ⟨.ref p, _, I4, rfl, hq p hp vs' r4⟩
          refine ⟨kk.map kV, [], ?_, rps_key kk⟩
          have ek : kk.map kV = vs.map fun p => kV p.1 := by
            rw [e2, rel.keys, List.map_map]; rfl
          rw [ek]
          exact keys_at (by rw [Array.length_toList]; exact hacc.1) fun j v e => hacc.2 j v (by rw [← Array.getElem?_toList]; exact e)
        | dT kk vv =>
          cases ho
          cases r1 with
          | @dT a kvs _ _ G e1 e2 rr =>
          cases ru
          obtain ⟨z, hs2, ks, pr, o, es, ep, ho, hx, hdt, he, hn⟩ := (show ObjOk X.prog X.w H s.heap a (.dT kvs) from e1.rd.ok I.hok)
          have l1 : es.size = ks.length := size_of_entries he
          have l2 : kvs.length = ks.length := Paired.length pr
          refine sorted_src (c := c) (ys := kk.map tkD) (kdl_raw hs2 hx hdt) hc hu I ho (by omega) (fun acc it => ?_) hok fun p h' tk vs' hp r4 I4 => ⟨.ref p, _, I4, rfl, hq p hp vs' r4⟩
          have ea : acc.toList = ks.map fun x => Value.ref x.2.1 := by
            have hl : acc.toList.length = ks.length := by rw [Array.length_toList, it.1]; exact l1
            apply List.ext_getElem?
            intro j
            rw [List.getElem?_map]
            cases hj : acc.toList[j]? with
            | none =>
              have h1 := List.getElem?_eq_none_iff.mp hj
              rw [List.getElem?_eq_none (by omega)]
              all_goals rfl
            | some v =>
              obtain ⟨en, hen, hv⟩ := it.2 j v (by rw [← Array.getElem?_toList]; exact hj)
              have qe := entry_at he j
              rw [hen] at qe
              cases hb : ks[j]? with
              | none =>
                rw [hb] at qe
                exact nomatch (show some en = none from qe)
              | some b =>
                rw [hb] at qe
                have e2 : en = entryOfKey (tupleKind (mixKind X.prog X.w)) b := Option.some.inj qe
                rw [hv, e2]
                all_goals rfl
          have eb : acc.toList = (ks.map fun x => x.2.1).map Value.ref := by rw [ea, List.map_map]; all_goals rfl
          refine ⟨(ks.map fun x => x.2.1).map V.ref, [], by rw [eb]; exact vals_refs _, ?_⟩
          rw [e2]
          exact rps_tkeys (isKeys_of pr)
        | lst zs => exact absurd ⟨_, rfl⟩ hd
        | fz zs => exact absurd ⟨_, rfl⟩ hd
        | _ => cases ho
  · exact False.elim h
/-! ### list(d), d a dict; list(d.values()) -/
def listdS : List D → Option D
  | [.dK ks _] => some (.lst (ks.map kD))
  | [.dT ks _] => some (.lst (ks.map tkD))
  | _ => none
theorem cd_listd (hK : c.cm.K = X.K) (hc : X.calm = true) : CallDN X c (.type "list") listdS := by
  intro pins s σ H xs us P I rx h
  obtain ⟨ds, F, r, h⟩ := h
  unfold listdS at h
  split at h
  · rename_i ks vs
    obtain ⟨v, rfl, r1⟩ := r.one_inv
    cases r1 with
    | @dK a kvs _ _ G e1 e2 rr =>
      refine call_listD hc pins s σ H _ us P I rx ⟨a, kvs, rfl, e1.rd, fun p hp => ?_⟩
      have e : (kvs.map fun kv => kV kv.1) = ks.map kV := by rw [e2, List.map_map]; rfl
      rw [e]
      exact h.lst hp (rps_key ks)
  · rename_i ks vs
    obtain ⟨v, rfl, r1⟩ := r.one_inv
    cases r1 with
    | @dT a kvs _ _ G e1 e2 rr =>
      refine call_list_dT hc pins s σ H _ us P I rx ⟨a, kvs, rfl, e1.rd, fun p bs hp hb => ?_⟩
      have := rps_tkeys (cm := c.cm) hb
      rw [← e2] at this
      exact h.lst hp this
  · exact False.elim h
def valuesO (p d : Addr) : HO := .ext fun h => h.IsValuesView p d
theorem valuesO_ok {P : Program} {w : World} {H : Hp} {h : Heap} {p d : Addr} (e : h.get? p = some { cls := .type "dict_values", data := .fields #[.ref d] }) : ObjOk P w H h p (valuesO p d) :=
  ⟨⟨_, e, rfl, rfl⟩, ⟨_, e⟩, fun h1 h2 x k => let ⟨o, ho, r⟩ := x; ⟨o, k o ho, r⟩⟩
def rVals : V → List V → Hp → VK → Prop := fun x xs H Q => ∃ (a : Addr) (kvs : List (Key × V)), x = .ref a ∧ xs = [] ∧ Rd H a (.dK kvs) ∧ ∀ p, H p = none → Q (.ref p) (upd H p (valuesO p a))
theorem mt_vals : MtR X "dict.values" rVals := by
  intro pins s σ H x xs v us Q I rx rxs h
  obtain ⟨a, kvs, rfl, rfl, ha, q⟩ := h
  cases rx
  cases rxs
  obtain ⟨z, lo, vs, rel, dd⟩ := dk_rd I.hok ha
  refine call_meetsIn PySem.F.slot_dict_values dd.typeIs PySem.F.entry_dict_values (PySem.F.args_dict_values_1 _) (meets_dict_values (mixKind X.prog X.w) a lo) ⟨⟨_, dd⟩, ?_⟩
  exact ⟨.ref s.heap.objs.size, upd H s.heap.objs.size (valuesO s.heap.objs.size a), I.laid (t' := s.toks) (fun b u e => Heap.get?_push_of_some _ e) (Nat.le_refl _) (valuesO_ok (Heap.get?_push_size _ rfl)), rfl, q _ (I.hok.fresh (Nat.le_refl _))⟩
theorem kv_vals {κ : Type} : ∀ {kvs : List (κ × V)} {vs : List (κ × Value)}, KV kvs vs → Vals (kvs.map (·.2)) (vs.map (·.2)) := fun {kvs vs} r => by
  unfold KV at r
  induction r with
  | nil => exact .nil
  | cons h t ih => exact .cons h.2 ih
def rListV : List V → Hp → VK → Prop := fun xs H Q => ∃ (p a : Addr) (kvs : List (Key × V)), xs = [.ref p] ∧ H p = some (valuesO p a) ∧ Rd H a (.dK kvs) ∧ ∀ q, H q = none → Q (.ref q) (upd H q (.lst (kvs.map (·.2))))
theorem call_listV (hc : X.calm = true) : CallR X (.type "list") rListV := by
  intro pins s σ H xs us Q I r h
  obtain ⟨p, a, kvs, rfl, hp, ha, q⟩ := h
  obtain rfl := Vals.ref1 r
  have view : s.heap.IsValuesView p a := (show ObjOk X.prog X.w H s.heap p (valuesO p a) from I.hok p _ hp).1
  obtain ⟨z, lo, vs, rel, dd⟩ := dk_rd I.hok ha
  obtain ⟨ep, hat⟩ := dd.dictAt
  refine PySem.W.kdl_call (PySem.W.kdl_values (knd := mixKind X.prog X.w) (kvs := vs) (ep := ep)) (I.ok.hd hc) ⟨view, hat⟩ (by rw [← rel.length]; exact z) fun h' tk acc c' hk hD hacc => ?_
  have hv : acc.toList = vs.map (·.2) := PySem.W.kdl_vals_eq _ (by rw [Array.length_toList]; exact hacc.1) fun j v e => hacc.2 j v (by rw [← Array.getElem?_toList]; exact e)
  refine ⟨.ref s.heap.objs.size, upd H s.heap.objs.size (.lst (kvs.map (·.2))), I.laid (t' := tk) hk (Nat.le_refl _)
    (show ObjOk X.prog X.w _ _ _ (.lst (kvs.map (·.2))) from ⟨by rw [List.length_map]; exact z, acc.toList, c', by rw [hv]; exact kv_vals rel, by rw [Array.toArray_toList]; exact hD⟩), rfl, q _ (I.hok.fresh (Nat.le_refl _))⟩
def valsD : D → Option D
  | .dK _ vs => some (.lst vs)
  | _ => none
def tVals (to : TE) : TE := fun σ H Q => to σ H fun x H1 => rVals x [] H1 Q
theorem pe_vals {o : Expr} {to : TE} (ho : PE X o to)
    (hbase : attributeBase o "values" X.env (eval o X.env) = eval o X.env := by rfl) (hline : (apos.endLine == cpos.line) = true := by rfl) : PE X (.Call (.Attribute o "values" apos) [] [] cpos) (tVals to) := by
  refine ⟨fun pins s σ H Q I h => ?_⟩
  refine wpAny_Call_method0_late hbase hline (thn (ho.run pins s σ H _ I h) fun v s1 ⟨x, H1, I1, r1, q1⟩ => ?_)
  obtain ⟨a, kvs, rfl, h2, h3, h4⟩ := q1
  obtain rfl : v = Value.ref a := r1
  obtain ⟨t1, t2, _⟩ := isD_at I1 (.inl ⟨kvs, h3⟩)
  exact ⟨"dict", "dict.values", PySem.F.plainAttrs_dict, PySem.F.slot_dict_values, PySem.F.type_dict_values, t1, t2, Calls.callWith_builtin rfl (PySem.evalArgs_none (mt_vals pins s1 σ H1 (.ref a) [] (.ref a) [] Q I1 rfl .nil ⟨a, kvs, rfl, rfl, h3, h4⟩))⟩
theorem de_listVals (hc : X.calm = true) (hg : Gl X "list") (hm : X.mg "list" = none) (ha : DE X c q e f)
    (hbase : attributeBase e "values" X.env (eval e X.env) = eval e X.env := by rfl) (hline : (apos.endLine == cpos.line) = true := by rfl)
    (hs2 : starEach [.Call (.Attribute e "values" apos) [] [] cpos] X.env = (false, eval (.Call (.Attribute e "values" apos) [] [] cpos) X.env) :: starEach [] X.env := by rfl) :
    DE X c (.n []) (.Call (.Name "list" p) [.Call (.Attribute e "values" apos) [] [] cpos] [] pos) (fFr (f1 valsD f)) :=
  PE.imp (pe_callTy (call_listV hc) hg hm bb_list (pa_cons (pe_vals ha hbase hline) pa_nil hs2) (by decide) (by decide) hs2 rfl) fun σ H P ⟨ρ, own, g, o⟩ => ⟨ρ, own, g, by
    unfold fFr f1 at o
    rw [bind_assoc2] at o
    exact outR.bind o fun d v H1 F hd s1 r1 k1 o1 => by
      revert o1
      unfold valsD
      cases r1 with
      | @dK a kvs ks vs G e1 e2 rr =>
        intro o1
        obtain ⟨hi, o4⟩ := fr_out o1
        refine ⟨a, kvs, rfl, rfl, e1.rd, fun pp hp => ⟨pp, a, kvs, rfl, upd_same, ?_, fun qq hq => ?_⟩⟩
        · have sm := upd_newSame (o := valuesO pp a) hp
          exact (e1.mono fun o e => sm _ o e).rd
        · have sm := upd_newSame (o := valuesO pp a) hp
          exact fr_end g (s1.trans sm) hq (rr.same sm) hi o4
      | _ => exact fun o1 => False.elim o1⟩
end
end Pd
set_option Elab.async false
set_option linter.all false
set_option maxRecDepth 100000
set_option maxHeartbeats 4000000
namespace Pd
open PySem L2
open PySem.W (dataLt alike alikeAll)
/-! ### costs -/
abbrev C := Int × Int
def cD (c : C) : D := .tup [.int c.1, .int c.2]
def oD : Option C → D
  | none => .non
  | some c => cD c
def clt (a b : C) : Bool := decide (a.1 < b.1 ∨ (a.1 = b.1 ∧ a.2 < b.2))
def cadd (a b : C) : C := (a.1 + b.1, a.2 + b.2)
def oadd : Option C → Option C → Option C
  | some a, some b => some (cadd a b)
  | _, _ => none
/-- the first of the least -/
def cmin (a : C) (l : List C) : C := l.foldl (fun m y => if clt y m = true then y else m) a
def oleast (l : List (Option C)) : Option C := match l.filterMap id with
  | [] => none
  | a :: r => some (cmin a r)
theorem lt_cost (a b : C) : dataLt (toP (cD a)) (toP (cD b)) = clt a b := by
  show dataLt (.tuple [.int a.1, .int a.2]) (.tuple [.int b.1, .int b.2]) = _
  rw [PySem.W.dataLt_ii]
  rfl
theorem alike_cost (a b : C) : alike (toP (cD a)) (toP (cD b)) = true := by
  simp [cD, toP, toPs, alike, alikeAll]
theorem shal_cost (a : C) (n : Nat) : shal (cD a) (n + 1) = true := by simp [cD, shal, shals]
theorem imm_cost (a : C) : imm (cD a) = true := by simp [cD, imm, immAll]
theorem imm_o (a : Option C) : imm (oD a) = true := by cases a <;> simp [oD, imm, imm_cost]
theorem isNon_o (a : Option C) : isNon (oD a) = a.isNone := by cases a <;> rfl
theorem isNon_cost (a : C) : isNon (cD a) = false := rfl
theorem minL_cost (l : List C) : ∀ a : C, minL (cD a) (l.map cD) = cD (cmin a l) := by
  induction l with
  | nil => intro a; rfl
  | cons b l ih =>
    intro a
    show (l.map cD).foldl _ (if dataLt (toP (cD b)) (toP (cD a)) = true then cD b else cD a) = _
    rw [lt_cost]
    have : (if clt b a = true then cD b else cD a) = cD (if clt b a = true then b else a) := by split <;> rfl
    rw [this]
    exact ih _
theorem okMin_cost (l : List C) : okMin (l.map cD) = true := by
  unfold okMin
  simp [List.all_eq_true, shal_cost, isNon_cost, alike_cost]
theorem minDef_cost (l : List C) : minDef (.lst (l.map cD)) = some (match l with
    | [] => .non
    | a :: r => cD (cmin a r)) := by
  cases l with
  | nil => rfl
  | cons a r =>
    unfold minDef
    simp only [itmL, List.map_cons]
    have h := okMin_cost (a :: r)
    rw [List.map_cons] at h
    rw [if_pos h, minL_cost]
/-! ### comprehensions over typed lists -/
theorem lcGo_map {α : Type} {tg : D → Env → Option Env} {ft : Env → R Bool} {fe : Env → R D} {ρ : Env} (en : α → D) (ρx : α → Env) (p : α → Bool) (g : α → D) : ∀ xs : List α,
    (∀ x ∈ xs, tg (en x) ρ = some (ρx x) ∧ ft (ρx x) = .ok (p x) ∧ (p x = true → fe (ρx x) = .ok (g x))) → lcGo tg ft fe ρ (xs.map en) = .ok ((xs.filter p).map g)
  | [], _ => rfl
  | x :: xs, h => by
    obtain ⟨h1, h2, h3⟩ := h x List.mem_cons_self
    have ih := lcGo_map en ρx p g xs fun y hy => h y (List.mem_cons_of_mem _ hy)
    rw [List.map_cons]
    unfold lcGo
    rw [h1]
    simp only [h2]
    cases hp : p x with
    | true => simp only [h3 hp, ih, List.filter_cons, hp, if_true, List.map_cons]
    | false => simp only [ih, List.filter_cons, hp, Bool.false_eq_true, if_false]
/-! ### loops over typed lists -/
theorem forD_inv {α : Type} {h : D → Env → Option Env} {body : Env → SR} (en : α → D) (Inv : List α → Env → Prop) : ∀ (pre xs : List α) (ρ : Env), Inv pre ρ →
    (∀ (pre : List α) (x : α) (post : List α) (ρ : Env), Inv pre ρ → (∃ a b, a ++ x :: b = pre ++ x :: post) → ∃ ρ1 ρ2, h (en x) ρ = some ρ1 ∧ (body ρ1 = .nx ρ2 ∨ body ρ1 = .ct ρ2) ∧ Inv (pre ++ [x]) ρ2) →
    ∃ ρ', forD h body (xs.map en) ρ = .nx ρ' ∧ Inv (pre ++ xs) ρ'
  | pre, [], ρ, hi, _ => ⟨ρ, rfl, by simpa using hi⟩
  | pre, x :: xs, ρ, hi, hs => by
    obtain ⟨ρ1, ρ2, h1, h2, h3⟩ := hs pre x xs ρ hi ⟨pre, xs, rfl⟩
    obtain ⟨ρ', h4, h5⟩ := forD_inv en Inv (pre ++ [x]) xs ρ2 h3 hs
    refine ⟨ρ', ?_, by simpa using h5⟩
    rw [List.map_cons]
    unfold forD
    rw [h1]
    rcases h2 with h2 | h2 <;> simp only [h2] <;> exact h4
end Pd
set_option Elab.async false
set_option linter.all false
set_option maxRecDepth 100000
set_option maxHeartbeats 4000000
namespace Pd
open PySem L2
open PySem.W (dataLt alike alikeAll)
/-! ### the evaluation of denotations, by simp -/
@[simp] theorem e_sSeq {ρ : Env} {a b : Env → SR} : sSeq a b ρ = (a ρ).then b := rfl
@[simp] theorem e_nx {ρ : Env} {k : Env → SR} : (SR.nx ρ).then k = k ρ := rfl
@[simp] theorem e_rt {ρ : Env} {k : Env → SR} {d : D} : (SR.rt d ρ).then k = .rt d ρ := rfl
@[simp] theorem e_ex {ρ : Env} {k : Env → SR} {d : Str} : (SR.ex d ρ).then k = .ex d ρ := rfl
@[simp] theorem e_bk {ρ : Env} {k : Env → SR} : (SR.bk ρ).then k = .bk ρ := rfl
@[simp] theorem e_ct {ρ : Env} {k : Env → SR} : (SR.ct ρ).then k = .ct ρ := rfl
@[simp] theorem e_no  {k : Env → SR} : (SR.no).then k = .no := rfl
@[simp] theorem e_sNil {ρ : Env} : sNil ρ = .nx ρ := rfl
@[simp] theorem e_sBrk {ρ : Env} : sBrk ρ = .bk ρ := rfl
@[simp] theorem e_sCnt {ρ : Env} : sCnt ρ = .ct ρ := rfl
def SR.br (r : R Bool) (x y : Env → SR) (ρ : Env) : SR := match r with
  | .ok true => x ρ
  | .ok false => y ρ
  | .exc e => .ex e ρ
  | .no => .no
@[simp] theorem e_br_t {x y : Env → SR} {ρ : Env} : SR.br (.ok true) x y ρ = x ρ := rfl
@[simp] theorem e_br_f {x y : Env → SR} {ρ : Env} : SR.br (.ok false) x y ρ = y ρ := rfl
@[simp] theorem e_sIf {t : Env → R Bool} {a b : Env → SR} {ρ : Env} : sIf t a b ρ = SR.br (t ρ) a b ρ := rfl
theorem e_br_b {x y : Env → SR} {ρ : Env} {b : Bool} : SR.br (.ok b) x y ρ = if b = true then x ρ else y ρ := by cases b <;> rfl
def SR.st (r : R D) (k : D → SR) (ρ : Env) : SR := match r with
  | .ok d => k d
  | .exc x => .ex x ρ
  | .no => .no
@[simp] theorem e_st_ok {d : D} {k : D → SR} {ρ : Env} : SR.st (.ok d) k ρ = k d := rfl
@[simp] theorem e_st_exc {x : Str} {k : D → SR} {ρ : Env} : SR.st (.exc x) k ρ = .ex x ρ := rfl
@[simp] theorem e_sRet {f : Env → R D} {ρ : Env} : sRet f ρ = SR.st (f ρ) (fun d => .rt d ρ) ρ := rfl
@[simp] theorem e_sExp {f : Env → R D} {ρ : Env} : sExp f ρ = SR.st (f ρ) (fun d => .nx ρ) ρ := rfl
@[simp] theorem e_sSet {i : Nat} {f : Env → R D} {ρ : Env} : sSet i f ρ = SR.st (f ρ) (fun d => .nx (ρ.set i (some d))) ρ := rfl
@[simp] theorem e_sSetR {i : Nat} {f : Env → R D} {ρ : Env} : sSetR i f ρ = SR.st (f ρ) (fun d => if isRoot d = true then .nx (ρ.set i (some d)) else .no) ρ := rfl
@[simp] theorem e_root_lst {xs : List D} : isRoot (.lst xs) = true := rfl
def SR.og (r : Option Env) : SR := match r with
  | some ρ => .nx ρ
  | none => .no
@[simp] theorem e_og {ρ : Env} : SR.og (some ρ) = .nx ρ := rfl
@[simp] theorem e_sAsg {f : Env → R D} {h : D → Env → Option Env} {ρ : Env} : sAsg f h ρ = SR.st (f ρ) (fun d => SR.og (h d ρ)) ρ := rfl
@[simp] theorem e_sRaise {x : Str} {ρ : Env} : sRaise x ρ = .ex x ρ := rfl
@[simp] theorem e_f2 {α : Type} {s : D → D → Option α} {fa fb : Env → R D} {ρ : Env} : f2 s fa fb ρ = (fa ρ).bind fun d => (fb ρ).bind fun e => ofO (s d e) := rfl
@[simp] theorem e_f1 {α : Type} {s : D → Option α} {fa : Env → R D} {ρ : Env} : f1 s fa ρ = (fa ρ).bind fun d => ofO (s d) := rfl
@[simp] theorem e_fS {s : List D → Option D} {fs : Env → R (List D)} {ρ : Env} : fS s fs ρ = (fs ρ).bind fun ds => ofO (s ds) := rfl
@[simp] theorem e_fCons {fa : Env → R D} {fr : Env → R (List D)} {ρ : Env} : fCons fa fr ρ = (fa ρ).bind fun d => (fr ρ).bind fun ds => .ok (d :: ds) := rfl
@[simp] theorem e_fNil {ρ : Env} : fNil ρ = .ok [] := rfl
def getE (o : Option (Option D)) : R D := match o with
  | some (some d) => .ok d
  | _ => .no
@[simp] theorem e_getE {d : D} : getE (some (some d)) = .ok d := rfl
@[simp] theorem e_fVar {i : Nat} {ρ : Env} : fVar i ρ = getE (ρ[i]?) := rfl
@[simp] theorem e_fC {d : D} {ρ : Env} : fC d ρ = .ok d := rfl
@[simp] theorem e_ofO_some {α : Type} {a : α} : ofO (some a) = .ok a := rfl
@[simp] theorem e_ofO_none {α : Type} : ofO (none : Option α) = .no := rfl
@[simp] theorem e_fImm {f : Env → R D} {ρ : Env} : fImm f ρ = (f ρ).bind fun d => ofO (chk d) := rfl
theorem chk_imm {d : D} (h : imm d = true) : chk d = some d := by unfold chk; rw [if_pos h]
@[simp] theorem e_chk_int {i : Int} : chk (.int i) = some (.int i) := rfl
@[simp] theorem e_chk_bl {i : Bool} : chk (.bl i) = some (.bl i) := rfl
@[simp] theorem e_chk_str {i : Str} : chk (.str i) = some (.str i) := rfl
@[simp] theorem e_chk_non : chk .non = some .non := rfl
@[simp] theorem e_chk_c {c : C} : chk (cD c) = some (cD c) := rfl
@[simp] theorem e_chk_o {c : Option C} : chk (oD c) = some (oD c) := chk_imm (imm_o c)
@[simp] theorem e_chk_tup {xs : List D} : chk (.tup xs) = if immAll xs = true then some (.tup xs) else none := by
  unfold chk; rw [imm]
@[simp] theorem e_immAll_nil : immAll [] = true := rfl
@[simp] theorem e_immAll_cons {d : D} {ds : List D} : immAll (d :: ds) = (imm d && immAll ds) := by rw [immAll]
@[simp] theorem e_imm_int {i : Int} : imm (.int i) = true := rfl
@[simp] theorem e_imm_bl {i : Bool} : imm (.bl i) = true := rfl
@[simp] theorem e_imm_str {i : Str} : imm (.str i) = true := rfl
@[simp] theorem e_imm_non : imm .non = true := rfl
@[simp] theorem e_imm_tup {xs : List D} : imm (.tup xs) = immAll xs := by rw [imm]
@[simp] theorem e_imm_c {c : C} : imm (cD c) = true := rfl
@[simp] theorem e_imm_o {c : Option C} : imm (oD c) = true := imm_o c
@[simp] theorem e_fIf {ft : Env → R Bool} {fa fb : Env → R D} {ρ : Env} : fIf ft fa fb ρ = (ft ρ).bind fun b => if b = true then fa ρ else fb ρ := rfl
@[simp] theorem e_fAndV {fa fb : Env → R D} {ρ : Env} : fAndV fa fb ρ = (fa ρ).bind fun d => (toB d).bind fun b => if b = true then fb ρ else .ok (.bl false) := rfl
@[simp] theorem e_fOrV {fa fb : Env → R D} {ρ : Env} : fOrV fa fb ρ = (fa ρ).bind fun d => (toB d).bind fun b => if b = true then .ok (.bl true) else fb ρ := rfl
@[simp] theorem e_fNotV {fa : Env → R D} {ρ : Env} : fNotV fa ρ = (fa ρ).bind fun d => (toB d).bind fun b => .ok (.bl (!b)) := rfl
@[simp] theorem e_toB {b : Bool} : toB (.bl b) = .ok b := rfl
@[simp] theorem e_fT {f : Env → R D} {ρ : Env} : fT f ρ = (f ρ).bind toB := rfl
@[simp] theorem e_ofB {b : Bool} : ofB (.ok b) = .ok (.bl b) := rfl
@[simp] theorem e_fB {f : Env → R Bool} {ρ : Env} : fB f ρ = ofB (f ρ) := rfl
@[simp] theorem e_tAndF {fa fb : Env → R Bool} {ρ : Env} : tAndF fa fb ρ = (fa ρ).bind fun b => if b = true then fb ρ else .ok false := rfl
@[simp] theorem e_tOrF {fa fb : Env → R Bool} {ρ : Env} : tOrF fa fb ρ = (fa ρ).bind fun b => if b = true then .ok true else fb ρ := rfl
@[simp] theorem e_tNotF {fa : Env → R Bool} {ρ : Env} : tNotF fa ρ = (fa ρ).bind fun b => .ok (!b) := rfl
@[simp] theorem e_tTrue {ρ : Env} : tTrue ρ = .ok true := rfl
@[simp] theorem e_fChain {s s' : D → D → Option Bool} {fa fb fc : Env → R D} {ρ : Env} : fChain s s' fa fb fc ρ = (fa ρ).bind fun d => (fb ρ).bind fun e => (ofO (s d e)).bind fun b => if b = true then (fc ρ).bind fun g => ofO (s' e g) else .ok false := rfl
@[simp] theorem e_mkTup {fs : Env → R (List D)} {ρ : Env} : mkTup fs ρ = (fs ρ).bind fun ds => if ds.length ≤ 1000 then .ok (.tup ds) else .no := rfl
@[simp] theorem e_mkLst {fs : Env → R (List D)} {ρ : Env} : mkLst fs ρ = (fs ρ).bind fun ds => if ds.length ≤ 1000 then .ok (.lst ds) else .no := rfl
@[simp] theorem e_fSl {fa : Env → R D} {fl fh : Env → R (Option Int)} {ρ : Env} : fSl fa fl fh ρ = (fa ρ).bind fun d => (fl ρ).bind fun l => (fh ρ).bind fun h => ofO (slD d l h) := rfl
@[simp] theorem e_oNo {ρ : Env} : oNo ρ = .ok none := rfl
@[simp] theorem e_oSome {f : Env → R D} {ρ : Env} : oSome f ρ = (f ρ).bind toI := rfl
@[simp] theorem e_toI {i : Int} : toI (.int i) = .ok (some i) := rfl
@[simp] theorem e_fItm {f : Env → R D} {ρ : Env} : fItm f ρ = (f ρ).bind fun d => ofO (itm d) := rfl
@[simp] theorem e_itm_lst {xs : List D} : itm (.lst xs) = some xs := rfl
@[simp] theorem e_itm_fz {xs : List D} : itm (.fz xs) = some xs := rfl
@[simp] theorem e_itm_tup {xs : List D} : itm (.tup xs) = some xs := rfl
@[simp] theorem e_itmL_lst {xs : List D} : itmL (.lst xs) = some xs := rfl
@[simp] theorem e_itmL_fz {xs : List D} : itmL (.fz xs) = some xs := rfl
@[simp] theorem e_tgName {i : Nat} {d : D} {ρ : Env} : tgName i d ρ = some (ρ.set i (some d)) := rfl
@[simp] theorem e_tgTup {n : Nat} {h : List D → Env → Option Env} {ds : List D} {ρ : Env} : tgTup n h (.tup ds) ρ = if ds.length = n then h ds ρ else none := rfl
@[simp] theorem e_tgCons {h : D → Env → Option Env} {r : List D → Env → Option Env} {d : D} {ds : List D} {ρ : Env} : tgCons h r (d :: ds) ρ = (h d ρ).bind (r ds) := rfl
@[simp] theorem e_tgNil {ρ : Env} : tgNil [] ρ = some ρ := rfl
@[simp] theorem e_fCall {Fn : List D → R D} {dds : List D} {fs : Env → R (List D)} {ρ : Env} : fCall Fn dds fs ρ = (fs ρ).bind fun ds => Fn (ds ++ dds) := rfl
@[simp] theorem e_wipe_nil {ρ : Env} : wipeE ρ [] = ρ := rfl
@[simp] theorem e_wipe_cons {ρ : Env} {v : Nat} {vs : List Nat} : wipeE ρ (v :: vs) = (wipeE ρ vs).set v none := rfl
@[simp] theorem e_fFr {f : Env → R D} {ρ : Env} : fFr f ρ = (f ρ).bind chkL := rfl
@[simp] theorem e_chkL {xs : List D} : chkL (.lst xs) = if immAll xs = true then .ok (.lst xs) else .no := rfl
def SR.fin (r : SR) : R D := match r with
  | .rt d _ => .ok d
  | .nx _ => .ok .non
  | .ex x _ => .exc x
  | _ => .no
@[simp] theorem e_fin_rt {d : D} {ρ : Env} : SR.fin (.rt d ρ) = .ok d := rfl
@[simp] theorem e_fin_nx {ρ : Env} : SR.fin (.nx ρ) = .ok .non := rfl
@[simp] theorem e_fin_ex {x : Str} {ρ : Env} : SR.fin (.ex x ρ) = .exc x := rfl
theorem callD_eq {np n : Nat} {g : Env → SR} {ds : List D} (h : ds.length = np) : callD np n g ds = (g (ds.map some ++ List.replicate (n - ds.length) none)).fin := by
  unfold callD; rw [if_pos h]; rfl
theorem callD_fin {np n : Nat} {g : Env → SR} {ds : List D} : callD np n g ds = if ds.length = np then (g (ds.map some ++ List.replicate (n - ds.length) none)).fin else .no := rfl
/-! what the operators tell -/
@[simp] theorem e_isNon_o {a : Option C} : isNon (oD a) = a.isNone := isNon_o a
@[simp] theorem e_isNon_c {a : C} : isNon (cD a) = false := rfl
@[simp] theorem e_is_non {d : D} : isD d .non = some (isNon d) := by cases d <;> rfl
@[simp] theorem e_isnot_non {d : D} : isnotD d .non = some (!isNon d) := by cases d <;> rfl
@[simp] theorem e_isNon_non : isNon .non = true := rfl
@[simp] theorem e_isNon_int {i : Int} : isNon (.int i) = false := rfl
@[simp] theorem e_isNon_str {i : Str} : isNon (.str i) = false := rfl
@[simp] theorem e_isNon_bl {i : Bool} : isNon (.bl i) = false := rfl
@[simp] theorem e_isNon_tup {i : List D} : isNon (.tup i) = false := rfl
@[simp] theorem e_isNon_lst {i : List D} : isNon (.lst i) = false := rfl
@[simp] theorem e_is_bl {a b : Bool} : isD (.bl a) (.bl b) = some (a == b) := rfl
@[simp] theorem e_isnot_bl {a b : Bool} : isnotD (.bl a) (.bl b) = some (a != b) := rfl
@[simp] theorem e_add_int {i j : Int} : addD (.int i) (.int j) = some (.int (i + j)) := rfl
@[simp] theorem e_add_lst {i j : List D} : addD (.lst i) (.lst j) = if i.length + j.length ≤ SZ then some (.lst (i ++ j)) else none := rfl
@[simp] theorem e_add_str {i j : Str} : addD (.str i) (.str j) = if i.length + j.length ≤ SZ then some (.str (i ++ j)) else none := rfl
@[simp] theorem e_sub_int {i j : Int} : subD (.int i) (.int j) = some (.int (i - j)) := rfl
theorem e_mul_int {i j : Int} (h : -BIG < i ∧ i < BIG) (h' : -BIG < j ∧ j < BIG) : mulD (.int i) (.int j) = some (.int (i * j)) := if_pos ⟨h.1, h.2, h'⟩
@[simp] theorem e_div_int {i j : Int} : divD (.int i) (.int j) = if 0 < j ∧ j < BIGD then some (.int (i / j)) else none := rfl
@[simp] theorem e_mod_int {i j : Int} : modD (.int i) (.int j) = if 0 < j then some (.int (i % j)) else none := rfl
@[simp] theorem e_pow_int {i j : Int} : powD (.int i) (.int j) = if 0 ≤ j ∧ j ≤ 1000 ∧ -1000000000000 < i ∧ i < 1000000000000 then some (.int (i ^ j.toNat)) else none := rfl
@[simp] theorem e_neg_int {i : Int} : negD (.int i) = some (.int (-i)) := rfl
@[simp] theorem e_lt_int {i j : Int} : ltD (.int i) (.int j) = some (decide (i < j)) := rfl
@[simp] theorem e_le_int {i j : Int} : leD (.int i) (.int j) = some (decide (i ≤ j)) := rfl
@[simp] theorem e_gt_int {i j : Int} : gtD (.int i) (.int j) = some (decide (j < i)) := rfl
@[simp] theorem e_ge_int {i j : Int} : geD (.int i) (.int j) = some (decide (j ≤ i)) := rfl
theorem beq_dec (i j : Int) : (i == j) = decide (i = j) := by by_cases h : i = j <;> simp [h]
@[simp] theorem e_eq_int {i j : Int} : eqD (.int i) (.int j) = some (decide (i = j)) := by rw [← beq_dec]; rfl
@[simp] theorem e_ne_int {i j : Int} : neD (.int i) (.int j) = some (!decide (i = j)) := by rw [← beq_dec]; rfl
theorem eq_refl {d : D} (h : shal d 12 = true) : eqD d d = some true := by
  unfold eqD
  rw [h]
  rw [if_pos (by rfl), PySem.SeqAt.eqv_refl_plain _ (shal_ok d 12 h).1]
theorem ne_refl {d : D} (h : shal d 12 = true) : neD d d = some false := by
  unfold neD
  rw [h]
  rw [if_pos (by rfl), PySem.SeqAt.eqv_refl_plain _ (shal_ok d 12 h).1]
  rfl
@[simp] theorem e_ix_lst {xs : List D} {i : Int} : ixD (.lst xs) (.int i) = atI xs i := rfl
@[simp] theorem e_ix_fz {xs : List D} {i : Int} : ixD (.fz xs) (.int i) = atI xs i := rfl
@[simp] theorem e_ix_tup {xs : List D} {i : Int} : ixD (.tup xs) (.int i) = atI xs i := rfl
theorem at_nat {xs : List D} {k : Nat} {d : D} (h : xs[k]? = some d) : atI xs (k : Int) = some d := atI_nat h
@[simp] theorem e_at0 {d : D} {ds : List D} : atI (d :: ds) 0 = some d := atI_nat (j := 0) rfl
@[simp] theorem e_at1 {d e : D} {ds : List D} : atI (d :: e :: ds) 1 = some e := atI_nat (j := 1) rfl
@[simp] theorem e_at2 {d e f : D} {ds : List D} : atI (d :: e :: f :: ds) 2 = some f := atI_nat (j := 2) rfl
@[simp] theorem e_at3 {d e f g : D} {ds : List D} : atI (d :: e :: f :: g :: ds) 3 = some g := atI_nat (j := 3) rfl
@[simp] theorem e_len {d : D} {xs : List D} : lenS [.lst xs] = some (.int xs.length) := rfl
@[simp] theorem e_len_fz {d : D} {xs : List D} : lenS [.fz xs] = some (.int xs.length) := rfl
@[simp] theorem e_len_tup {d : D} {xs : List D} : lenS [.tup xs] = some (.int xs.length) := rfl
@[simp] theorem e_listS {d : D} : listS [d] = (itm d).map fun xs => .lst xs := rfl
@[simp] theorem e_isi {t : D → Bool} {d : D} : isiD t d = (tyN d).map fun _ => .bl (t d) := by unfold isiD; cases tyN d <;> rfl
@[simp] theorem e_tyN_tup {xs : List D} : tyN (.tup xs) = some "tuple" := rfl
@[simp] theorem e_tyN_lst {xs : List D} : tyN (.lst xs) = some "list" := rfl
@[simp] theorem e_tyN_int {xs : Int} : tyN (.int xs) = some "int" := rfl
@[simp] theorem e_tyN_bl {xs : Bool} : tyN (.bl xs) = some "bool" := rfl
@[simp] theorem e_tyN_str {xs : Str} : tyN (.str xs) = some "str" := rfl
@[simp] theorem e_tyN_non : tyN .non = some "NoneType" := rfl
@[simp] theorem e_isTup {xs : List D} : isTup (.tup xs) = true := rfl
@[simp] theorem e_isTup_lst {xs : List D} : isTup (.lst xs) = false := rfl
@[simp] theorem e_isTup_int {xs : Int} : isTup (.int xs) = false := rfl
@[simp] theorem e_isTup_non : isTup .non = false := rfl
@[simp] theorem e_isBol_int {xs : Int} : isBol (.int xs) = false := rfl
@[simp] theorem e_isBol_bl {xs : Bool} : isBol (.bl xs) = true := rfl
@[simp] theorem e_isBol_non : isBol .non = false := rfl
@[simp] theorem e_isInt_int {xs : Int} : isInt (.int xs) = true := rfl
@[simp] theorem e_isInt_bl {xs : Bool} : isInt (.bl xs) = true := rfl
@[simp] theorem e_isInt_non : isInt .non = false := rfl
@[simp] theorem e_isLst {xs : List D} : isLst (.lst xs) = true := rfl
@[simp] theorem e_rev_lst {xs : List D} : revD (.lst xs) = some (.lst xs.reverse) := rfl
/-- a comprehension over a typed list -/
theorem fLc_map {α : Type} {fi : Env → R (List D)} {tg : D → Env → Option Env} {ft : Env → R Bool} {fe : Env → R D} {vs : List Nat} {ρ : Env} (en : α → D) (xs : List α) (p : α → Bool) (g : α → D) (hfi : fi ρ = .ok (xs.map en)) (hl : xs.length ≤ SZ)
    (h : ∀ x ∈ xs, ∃ ρx, tg (en x) (wipeE ρ vs) = some ρx ∧ ft ρx = .ok (p x) ∧ (p x = true → fe ρx = .ok (g x))) : fLc fi tg ft fe vs ρ = .ok (.lst ((xs.filter p).map g)) := by
  have k : lcGo tg ft fe (wipeE ρ vs) (xs.map en) = .ok ((xs.filter p).map g) := by
    clear hfi hl
    induction xs with
    | nil => rfl
    | cons x xs ih =>
      obtain ⟨ρx, h1, h2, h3⟩ := h x List.mem_cons_self
      have ih := ih fun y hy => h y (List.mem_cons_of_mem _ hy)
      rw [List.map_cons]
      unfold lcGo
      rw [h1]
      simp only [h2]
      cases hp : p x with
      | true => simp only [h3 hp, ih, List.filter_cons, hp, if_true, List.map_cons]
      | false => simp only [ih, List.filter_cons, hp, Bool.false_eq_true, if_false]
  unfold fLc
  simp only [hfi, List.length_map, if_pos hl, k]
theorem fLc_all {α : Type} {fi : Env → R (List D)} {tg : D → Env → Option Env} {fe : Env → R D} {vs : List Nat} {ρ : Env} (en : α → D) (xs : List α) (g : α → D) (hfi : fi ρ = .ok (xs.map en)) (hl : xs.length ≤ SZ)
    (h : ∀ x ∈ xs, ∃ ρx, tg (en x) (wipeE ρ vs) = some ρx ∧ fe ρx = .ok (g x)) : fLc fi tg tTrue fe vs ρ = .ok (.lst (xs.map g)) := by
  have := fLc_map (ft := tTrue) en xs (fun _ => true) g hfi hl fun x hx => let ⟨ρx, h1, h2⟩ := h x hx; ⟨ρx, h1, rfl, fun _ => h2⟩
  rwa [List.filter_eq_self.mpr (fun _ _ => rfl)] at this
theorem SZ_eq : SZ = 1000000 := rfl
/-- big enough -/
def Big (i : Int) : Prop := -BIG < i ∧ i < BIG
theorem Big.of {i : Int} (h : i.natAbs < 2 ^ 1000) : Big i := by
  unfold Big
  rw [BIG_eq]
  have : (2 ^ 1000 : Nat) ≤ 2 ^ 1100000 := Nat.pow_le_pow_right (by decide) (by decide)
  generalize (2 ^ 1100000 : Nat) = N at this ⊢
  generalize (2 ^ 1000 : Nat) = M at this h
  omega
theorem Big.rng {i : Int} (h0 : 0 ≤ i) (h : i < 10 ^ 200) : Big i := Big.of (by
  have e : (10 : Int) ^ 200 = ((10 ^ 200 : Nat) : Int) := by norm_cast
  rw [e] at h
  have : (10 : Nat) ^ 200 ≤ 2 ^ 1000 := by decide
  generalize (10 ^ 200 : Nat) = N at *
  generalize (2 ^ 1000 : Nat) = M at *
  omega)
theorem Big.bits {i : Int} (h : Builtin.Int.intBits i ≤ 1048576) : Big i := by
  have hn : i.natAbs < 2 ^ 1048577 := by
    unfold Builtin.Int.intBits at h
    split at h
    · rename_i z
      have : i.natAbs = 0 := by simpa using z
      rw [this]; exact Nat.two_pow_pos _
    · have := Nat.lt_log2_self (n := i.natAbs)
      exact Nat.lt_of_lt_of_le this (Nat.pow_le_pow_right (by decide) (by omega))
  unfold Big
  rw [BIG_eq]
  have : (2 ^ 1048577 : Nat) ≤ 2 ^ 1100000 := Nat.pow_le_pow_right (by decide) (by decide)
  generalize (2 ^ 1100000 : Nat) = N at this ⊢
  generalize (2 ^ 1048577 : Nat) = M at this hn
  omega
/-! ### loops, by their places -/
theorem forD_go {h : D → Env → Option Env} {body : Env → SR} {Post : SR → Prop} (ds : List D) (Inv : Nat → Env → Prop)
    (step : ∀ (i : Nat) (d : D) (ρ : Env), ds[i]? = some d → Inv i ρ → ∃ ρ1, h d ρ = some ρ1 ∧ match body ρ1 with
      | .nx ρ2 => Inv (i + 1) ρ2
      | .ct ρ2 => Inv (i + 1) ρ2
      | .bk ρ2 => Post (.nx ρ2)
      | r => Post r)
    (fin : ∀ ρ, Inv ds.length ρ → Post (.nx ρ)) : ∀ (n i : Nat) (ρ : Env), i + n = ds.length → Inv i ρ → Post (forD h body (ds.drop i) ρ)
  | 0, i, ρ, e, hi => by
    rw [List.drop_eq_nil_of_le (by omega)]
    exact fin ρ (by rwa [← show i = ds.length by omega])
  | n + 1, i, ρ, e, hi => by
    have hlt : i < ds.length := by omega
    rw [List.drop_eq_getElem_cons hlt]
    obtain ⟨ρ1, h1, h2⟩ := step i _ ρ (List.getElem?_eq_getElem hlt) hi
    unfold forD
    simp only [h1]
    revert h2
    cases body ρ1 with
    | nx ρ2 => exact fun h2 => forD_go ds Inv step fin n (i + 1) ρ2 (by omega) h2
    | ct ρ2 => exact fun h2 => forD_go ds Inv step fin n (i + 1) ρ2 (by omega) h2
    | bk ρ2 => exact id
    | rt d ρ2 => exact id
    | ex x ρ2 => exact id
    | no => exact id
theorem forD_ind {h : D → Env → Option Env} {body : Env → SR} {Post : SR → Prop} (ds : List D) (Inv : Nat → Env → Prop) (ρ : Env) (start : Inv 0 ρ)
    (step : ∀ (i : Nat) (d : D) (ρ : Env), ds[i]? = some d → Inv i ρ → ∃ ρ1, h d ρ = some ρ1 ∧ match body ρ1 with
      | .nx ρ2 => Inv (i + 1) ρ2
      | .ct ρ2 => Inv (i + 1) ρ2
      | .bk ρ2 => Post (.nx ρ2)
      | r => Post r)
    (fin : ∀ ρ, Inv ds.length ρ → Post (.nx ρ)) : Post (forD h body ds ρ) := by
  have := forD_go ds Inv step fin ds.length 0 ρ (by omega) start
  rwa [List.drop_zero] at this
/-- a loop that runs to its end -/
theorem forD_all {h : D → Env → Option Env} {body : Env → SR} (ds : List D) (Inv : Nat → Env → Prop) (ρ : Env) (start : Inv 0 ρ)
    (step : ∀ (i : Nat) (d : D) (ρ : Env), ds[i]? = some d → Inv i ρ → ∃ ρ1 ρ2, h d ρ = some ρ1 ∧ body ρ1 = .nx ρ2 ∧ Inv (i + 1) ρ2) : ∃ ρ', forD h body ds ρ = .nx ρ' ∧ Inv ds.length ρ' :=
  forD_ind (Post := fun r => ∃ ρ', r = .nx ρ' ∧ Inv ds.length ρ') ds Inv ρ start (fun i d ρ h1 h2 => by
    obtain ⟨ρ1, ρ2, a, b, c⟩ := step i d ρ h1 h2
    exact ⟨ρ1, a, by rw [b]; exact c⟩) fun ρ h => ⟨ρ, rfl, h⟩
theorem sFor_ok {fi : Env → R (List D)} {h : D → Env → Option Env} {body : Env → SR} {ρ : Env} {ds : List D} (hf : fi ρ = .ok ds) : sFor fi h body ρ = forD h body ds ρ := by unfold sFor; rw [hf]
theorem enum_get {xs : List D} {i : Nat} {d : D} (h : (enumD 0 xs)[i]? = some d) : ∃ e, xs[i]? = some e ∧ d = .tup [.int (i : Nat), e] := by
  rw [enumD_get] at h
  obtain ⟨e, h1, h2⟩ := Option.map_eq_some_iff.mp h
  exact ⟨e, h1, by rw [← h2]; simp⟩
theorem rng_get {n : Int} {i : Nat} {d : D} (h : (rngD n)[i]? = some d) : (i : Int) < n ∧ d = .int (i : Nat) := by
  unfold rngD at h
  rw [List.getElem?_map] at h
  obtain ⟨j, h1, h2⟩ := Option.map_eq_some_iff.mp h
  have h3 := List.getElem?_eq_some_iff.mp h1
  obtain ⟨h4, h5⟩ := h3
  simp at h4 h5
  subst h5
  exact ⟨by omega, h2.symm⟩
theorem rng_len (n : Int) : (rngD n).length = n.toNat := by simp [rngD]
theorem map_get {α : Type} {en : α → D} {xs : List α} {i : Nat} {d : D} (h : (xs.map en)[i]? = some d) : ∃ x, xs[i]? = some x ∧ d = en x := by
  rw [List.getElem?_map] at h
  obtain ⟨x, h1, h2⟩ := Option.map_eq_some_iff.mp h
  exact ⟨x, h1, h2.symm⟩
@[simp] theorem e_fEnum {f : Env → R D} {ρ : Env} {xs : List D} (h : f ρ = .ok (.lst xs)) : fEnum f ρ = .ok (enumD 0 xs) := by
  unfold fEnum; rw [h]; rfl
@[simp] theorem e_fRange {f : Env → R D} {ρ : Env} {n : Int} (h : f ρ = .ok (.int n)) (h1 : -1000000 ≤ n) (h2 : n ≤ 1000000) : fRange f ρ = .ok (rngD n) := by
  unfold fRange; rw [h]
  simp only [R.bind_ok]
  rw [if_pos ⟨h1, h2⟩]
/-- a comprehension whose items are of some form -/
theorem fLc_ex {α β : Type} {fi : Env → R (List D)} {tg : D → Env → Option Env} {fe : Env → R D} {vs : List Nat} {ρ : Env} (en : α → D) (em : β → D) (xs : List α) (P : α → β → Prop) (hfi : fi ρ = .ok (xs.map en)) (hl : xs.length ≤ SZ)
    (h : ∀ x ∈ xs, ∃ ρx y, tg (en x) (wipeE ρ vs) = some ρx ∧ fe ρx = .ok (em y) ∧ P x y) : ∃ ys : List β, ys.length = xs.length ∧ (∀ (i : Nat) (x : α), xs[i]? = some x → ∃ y, ys[i]? = some y ∧ P x y) ∧ fLc fi tg tTrue fe vs ρ = .ok (.lst (ys.map em)) := by
  have k : ∃ ys : List β, ys.length = xs.length ∧ (∀ (i : Nat) (x : α), xs[i]? = some x → ∃ y, ys[i]? = some y ∧ P x y) ∧ lcGo tg tTrue fe (wipeE ρ vs) (xs.map en) = .ok (ys.map em) := by
    clear hfi hl
    induction xs with
    | nil => exact ⟨[], rfl, fun i x h => by simp at h, rfl⟩
    | cons x xs ih =>
      obtain ⟨ρx, y, h1, h2, h3⟩ := h x List.mem_cons_self
      obtain ⟨ys, e1, e2, e3⟩ := ih fun y hy => h y (List.mem_cons_of_mem _ hy)
      refine ⟨y :: ys, by simp [e1], fun i z hz => ?_, ?_⟩
      · cases i with
        | zero => simp at hz; subst hz; exact ⟨y, rfl, h3⟩
        | succ i => simp at hz; simpa using e2 i z hz
      · rw [List.map_cons]
        unfold lcGo
        rw [h1]
        simp only [e_tTrue, h2, e3, List.map_cons]
  obtain ⟨ys, e1, e2, e3⟩ := k
  refine ⟨ys, e1, e2, ?_⟩
  unfold fLc
  simp only [hfi, List.length_map, if_pos hl, e3]
end Pd
set_option Elab.async false
set_option linter.all false
set_option maxRecDepth 100000
set_option maxHeartbeats 4000000
namespace Pd
open PySem L2
open PySem.W (dataLt alike alikeAll)
/-! ### writes into parts, methods, walks: by simp -/
@[simp] theorem e_noE {α : Type} {a : α} : noE (R.ok a) = .ok a := rfl
theorem e_curD {i : Nat} {ρ : Env} {d : D} (h : ρ[i]? = some (some d)) : curD i ρ = .ok d := by unfold curD; rw [h]
def curE (o : Option (Option D)) : R D := match o with
  | some (some d) => .ok d
  | _ => .no
@[simp] theorem e_curE {d : D} : curE (some (some d)) = .ok d := rfl
@[simp] theorem e_cur {i : Nat} {ρ : Env} : curD i ρ = curE (ρ[i]?) := rfl
def rootE (o : Option (Option D)) : R (List Nat) := match o with
  | some (some _) => .ok []
  | _ => .no
@[simp] theorem e_rootE {d : D} : rootE (some (some d)) = .ok [] := rfl
@[simp] theorem e_pRoot {i : Nat} {ρ : Env} : pRoot i ρ = rootE (ρ[i]?) := rfl
@[simp] theorem e_pIx {i : Nat} {fp : Env → R (List Nat)} {fk : Env → R D} {ρ : Env} : pIx i fp fk ρ = (fp ρ).bind fun p => (noE (fk ρ)).bind fun k => (curD i ρ).bind fun d => ofO (stepP d p k) := rfl
@[simp] theorem e_stepP_lst {d : D} {p : List Nat} {xs : List D} {z : Int} (h : subP d p = some (.lst xs)) : stepP d p (.int z) = (ixN xs.length z).map fun n => p ++ [n] := by unfold stepP; rw [h]
@[simp] theorem e_subP_nil {d : D} : subP d [] = some d := rfl
@[simp] theorem e_putP_nil {d e : D} : putP d [] e = e := rfl
@[simp] theorem e_subP_lst {xs : List D} {k : Nat} {p : List Nat} : subP (.lst xs) (k :: p) = (xs[k]?).bind fun e => subP e p := rfl
@[simp] theorem e_subP_tup {xs : List D} {k : Nat} {p : List Nat} : subP (.tup xs) (k :: p) = (xs[k]?).bind fun e => subP e p := rfl
theorem e_putP_lst {xs : List D} {k : Nat} {p : List Nat} {e s : D} (h : xs[k]? = some s) : putP (.lst xs) (k :: p) e = .lst (xs.set k (putP s p e)) := by
  show (match xs[k]? with
    | some s => withKids (.lst xs) (xs.set k (putP s p e))
    | none => .lst xs) = _
  rw [h]
  rfl
def SR.pt (r : R D) (k : D → SR) (ρ : Env) : SR := match r with
  | .ok d => k d
  | _ => .no
@[simp] theorem e_pt {d : D} {k : D → SR} {ρ : Env} : SR.pt (.ok d) k ρ = k d := rfl
theorem e_sPut' {i : Nat} {fp : Env → R (List Nat)} {fk fv : Env → R D} {ρ : Env} : sPut i fp fk fv ρ = SR.st (fv ρ) (fun y => SR.pt ((fp ρ).bind fun p => (noE (fk ρ)).bind fun k => (curD i ρ).bind fun d => ofO (((subP d p).bind fun e => setD e k y).map fun e' => putP d p e')) (fun d' => .nx (ρ.set i (some d'))) ρ) ρ := rfl
@[simp] theorem e_sPut {i : Nat} {fp : Env → R (List Nat)} {fk fv : Env → R D} {ρ : Env} : sPut i fp fk fv ρ = SR.st (fv ρ) (fun y => SR.pt ((fp ρ).bind fun p => (noE (fk ρ)).bind fun k => (curD i ρ).bind fun d => ofO (((subP d p).bind fun e => setD e k y).map fun e' => putP d p e')) (fun d' => .nx (ρ.set i (some d'))) ρ) ρ := rfl
@[simp] theorem e_setD_lst {xs : List D} {z : Int} {y : D} : setD (.lst xs) (.int z) y = (ixN xs.length z).map fun n => .lst (xs.set n y) := rfl
def SR.pl (r : R (List D)) (k : List D → SR) (ρ : Env) : SR := match r with
  | .ok d => k d
  | _ => .no
@[simp] theorem e_pl {d : List D} {k : List D → SR} {ρ : Env} : SR.pl (.ok d) k ρ = k d := rfl
def SR.sl (r : R (List D)) (k : List D → SR) (ρ : Env) : SR := match r with
  | .ok d => k d
  | .exc x => .ex x ρ
  | .no => .no
@[simp] theorem e_sl {d : List D} {k : List D → SR} {ρ : Env} : SR.sl (.ok d) k ρ = k d := rfl
def SR.pn (r : R (List Nat)) (k : List Nat → SR) (ρ : Env) : SR := match r with
  | .ok d => k d
  | _ => .no
@[simp] theorem e_pn {d : List Nat} {k : List Nat → SR} {ρ : Env} : SR.pn (.ok d) k ρ = k d := rfl
@[simp] theorem e_sOp {i : Nat} {fp : Env → R (List Nat)} {fs : Env → R (List D)} {s : List D → List D → Option (List D)} {ρ : Env} : sOp i fp fs s ρ = SR.pn (fp ρ) (fun p => SR.pl ((curD i ρ).bind fun d => ofO ((subP d p).bind lstP)) (fun ds => SR.sl (fs ρ) (fun as => SR.pt ((curD i ρ).bind fun d => ofO ((s ds as).map fun ds' => putP d p (.lst ds'))) (fun d' => .nx (ρ.set i (some d'))) ρ) ρ) ρ) ρ := rfl
@[simp] theorem e_lstP {xs : List D} : lstP (.lst xs) = some xs := rfl
@[simp] theorem e_appS {ds : List D} {y : D} : appS ds [y] = if ds.length < SZ then some (ds ++ [y]) else none := rfl
@[simp] theorem e_clrS {ds : List D} : clrS ds [] = some [] := rfl
@[simp] theorem e_revS {ds : List D} : revS ds [] = some ds.reverse := rfl
@[simp] theorem e_popS {ds : List D} : popS ds [] = if ds = [] then none else some ds.dropLast := rfl
theorem ixN_nat {n k : Nat} (h : k < n) : ixN n (k : Int) = some k := by
  unfold ixN
  simp only [Int.toNat_natCast]
  split <;> simp_all <;> omega
@[simp] theorem e_getN {ks : List Key} {vs : List D} {i : Int} : getN (.dK ks vs) (.int i) = some ((lookK (.inl i) ks vs).getD .non) := rfl
@[simp] theorem e_isDk {ks : List Key} {vs : List D} : isDk (.dK ks vs) = true := rfl
@[simp] theorem e_isDkT {ks : List (List Key)} {vs : List D} : isDk (.dT ks vs) = true := rfl
@[simp] theorem e_fGet {fa fk : Env → R D} {ρ : Env} : fGet fa fk ρ = (fa ρ).bind fun d => if isDk d = true then (fk ρ).bind fun k => ofO (getN d k) else .no := rfl
@[simp] theorem e_fRevI {f : Env → R D} {ρ : Env} : fRevI f ρ = (f ρ).bind fun d => ofO ((itm d).map List.reverse) := rfl
theorem e_fLRange {f : Env → R D} {ρ : Env} {n : Int} (h : f ρ = .ok (.int n)) (h1 : 0 ≤ n) (h2 : n ≤ 1000000) : fLRange f ρ = .ok (.lst (rngD n)) := by
  unfold fLRange; rw [h]
  simp only [R.bind_ok]
  rw [if_pos ⟨h1, h2⟩]
@[simp] theorem e_intS {i : Int} : intS [.int i] = some (.int i) := rfl
@[simp] theorem e_intS_bl {i : Bool} : intS [.bl i] = some (.int (if i = true then 1 else 0)) := rfl
@[simp] theorem e_tupS {xs : List D} : tupS [.lst xs] = some (.tup xs) := rfl
theorem immAll_map {α : Type} {en : α → D} (h : ∀ x, imm (en x) = true) : ∀ xs : List α, immAll (xs.map en) = true
  | [] => rfl
  | x :: xs => by rw [List.map_cons, e_immAll_cons, h, immAll_map h xs]; rfl
theorem shals_map {α : Type} {en : α → D} {n : Nat} (h : ∀ x, shal (en x) n = true) : ∀ xs : List α, shals (xs.map en) n = true
  | [] => rfl
  | x :: xs => by rw [List.map_cons, shals, h, shals_map h xs]; rfl
end Pd
namespace Pd
@[simp] theorem e_sOpM {i j : Nat} {fp : Env → R (List Nat)} {fs : Env → R (List D)} {s : List D → List D → Option (List D)} {ρ : Env} : sOpM i fp fs s j ρ = SR.pn (fp ρ) (fun p => SR.pl ((curD i ρ).bind fun d => ofO ((subP d p).bind lstP)) (fun ds => SR.sl (fs ρ) (fun as => SR.pt ((curD i ρ).bind fun d => ofO ((s ds as).map fun ds' => putP d p (.lst ds'))) (fun d' => if j < ρ.length then .nx ((ρ.set i (some d')).set j none) else .no) ρ) ρ) ρ) ρ := rfl
end Pd
namespace Pd
def MX.st (r : MX) (k : D → Env → SR) : SR := match r with
  | .ok d ρ => k d ρ
  | .exc x ρ => .ex x ρ
  | .no => .no
@[simp] theorem e_mst {d : D} {ρ : Env} {k : D → Env → SR} : MX.st (.ok d ρ) k = k d ρ := rfl
@[simp] theorem e_mstx {x : PySem.Str} {ρ : Env} {k : D → Env → SR} : MX.st (.exc x ρ) k = .ex x ρ := rfl
@[simp] theorem e_sExpM {f : Env → MX} {ρ : Env} : sExpM f ρ = MX.st (f ρ) fun _ ρ' => .nx ρ' := rfl
@[simp] theorem e_sSetM {i : Nat} {f : Env → MX} {ρ : Env} : sSetM i f ρ = MX.st (f ρ) fun d ρ' => .nx (ρ'.set i (some d)) := rfl
@[simp] theorem e_sRetM {f : Env → MX} {ρ : Env} : sRetM f ρ = MX.st (f ρ) fun d ρ' => .rt d ρ' := rfl
def MX.bk (r : MX) (k : D → Env → MX) (kx : PySem.Str → Env → MX) : MX := match r with
  | .ok d ρ => k d ρ
  | .exc x ρ => kx x ρ
  | .no => .no
@[simp] theorem e_mbk {d : D} {ρ : Env} {k : D → Env → MX} {kx : PySem.Str → Env → MX} : MX.bk (.ok d ρ) k kx = k d ρ := rfl
@[simp] theorem e_mbkx {x : PySem.Str} {ρ : Env} {k : D → Env → MX} {kx : PySem.Str → Env → MX} : MX.bk (.exc x ρ) k kx = kx x ρ := rfl
def R.mx (r : R D) (k : D → MX) : MX := match r with
  | .ok d => k d
  | _ => .no
@[simp] theorem e_rmx {d : D} {k : D → MX} : R.mx (.ok d) k = k d := rfl
def R.mp (r : R (List Nat)) (k : List Nat → MX) : MX := match r with
  | .ok d => k d
  | _ => .no
@[simp] theorem e_rmp {d : List Nat} {k : List Nat → MX} : R.mp (.ok d) k = k d := rfl
def R.ml (r : R (List D)) (k : List D → MX) (ρ : Env) : MX := match r with
  | .ok d => k d
  | .exc x => .exc x ρ
  | .no => .no
@[simp] theorem e_rml {d : List D} {k : List D → MX} {ρ : Env} : R.ml (.ok d) k ρ = k d := rfl
@[simp] theorem e_fCallM {Fn : List D → MX} {i : Nat} {fp : Env → R (List Nat)} {fs : Env → R (List D)} {ρ : Env} : fCallM Fn i fp fs ρ = R.mp (fp ρ) fun p => R.mx ((curD i ρ).bind fun d => ofO (subP d p)) fun e => R.ml (fs ρ) (fun ds => MX.bk (Fn (e :: ds)) (fun d ρ1 => R.mx ((curD i ρ).bind fun d0 => (curD 0 ρ1).bind fun e' => .ok (putP d0 p e')) fun d' => .ok d (ρ.set i (some d'))) (fun x ρ1 => R.mx ((curD i ρ).bind fun d0 => (curD 0 ρ1).bind fun e' => .ok (putP d0 p e')) fun d' => .exc x (ρ.set i (some d')))) ρ := rfl
def SR.finM (r : SR) : MX := match r with
  | .rt d ρ => .ok d ρ
  | .nx ρ => .ok .non ρ
  | .ex x ρ => .exc x ρ
  | _ => .no
@[simp] theorem e_finM_rt {d : D} {ρ : Env} : SR.finM (.rt d ρ) = .ok d ρ := rfl
@[simp] theorem e_finM_nx {ρ : Env} : SR.finM (.nx ρ) = .ok .non ρ := rfl
@[simp] theorem e_finM_ex {x : PySem.Str} {ρ : Env} : SR.finM (.ex x ρ) = .exc x ρ := rfl
theorem callM_eq {np n : Nat} {g : Env → SR} {ds : List D} (h : ds.length = np) : callM np n g ds = (g (ds.map some ++ List.replicate (n - ds.length) none)).finM := by
  unfold callM; rw [if_pos h]; rfl
end Pd
namespace Pd
theorem sForM_ok {i : Nat} {h : D → Env → Option Env} {g : Env → SR} {ρ : Env} {xs : List D} (e : ρ[i]? = some (some (.lst xs))) (him : immAll xs = true) : sForM i h g ρ = forD h (keepL i xs g) xs ρ := by
  unfold sForM
  rw [e_curD e]
  simp only [him, if_true]
theorem keepL_nx {i : Nat} {xs : List D} {g : Env → SR} {ρ ρ2 : Env} (h : g ρ = .nx ρ2) (e : ρ2[i]? = some (some (.lst xs))) : keepL i xs g ρ = .nx ρ2 := by
  unfold keepL
  rw [h]
  simp only [if_pos e]
theorem keepL_rt {i : Nat} {xs : List D} {g : Env → SR} {ρ ρ2 : Env} {d : D} (h : g ρ = .rt d ρ2) : keepL i xs g ρ = .rt d ρ2 := by
  unfold keepL
  rw [h]
end Pd
set_option Elab.async false
set_option linter.all false
set_option maxRecDepth 100000
set_option maxHeartbeats 4000000
namespace Pd
/-! ### the order of costs; None is none at all, beyond every cost -/
def cle (a b : C) : Prop := a.1 < b.1 ∨ (a.1 = b.1 ∧ a.2 ≤ b.2)
def ole : Option C → Option C → Prop
  | _, none => True
  | none, some _ => False
  | some a, some b => cle a b
def olt (a b : Option C) : Prop := ¬ ole b a
theorem cle_refl (a : C) : cle a a := .inr ⟨rfl, Int.le_refl _⟩
theorem cle_trans {a b c : C} (h : cle a b) (k : cle b c) : cle a c := by
  unfold cle at *; omega
theorem cle_anti {a b : C} (h : cle a b) (k : cle b a) : a = b := by
  unfold cle at *; apply Prod.ext <;> omega
theorem cle_total (a b : C) : cle a b ∨ cle b a := by
  unfold cle; omega
theorem clt_iff {a b : C} : clt a b = true ↔ ¬ cle b a := by
  unfold clt cle; rw [decide_eq_true_eq]; omega
theorem cadd_mono {a b c d : C} (h : cle a b) (k : cle c d) : cle (cadd a c) (cadd b d) := by
  unfold cle cadd at *; simp only; omega
theorem cadd_assoc (a b c : C) : cadd (cadd a b) c = cadd a (cadd b c) := by
  unfold cadd; apply Prod.ext <;> simp only <;> omega
theorem cadd_comm (a b : C) : cadd a b = cadd b a := by
  unfold cadd; apply Prod.ext <;> simp only <;> omega
theorem cadd_z (a : C) : cadd a (0, 0) = a := by unfold cadd; simp
theorem cadd_zl (a : C) : cadd (0, 0) a = a := by unfold cadd; simp
theorem ole_refl : ∀ a : Option C, ole a a
  | none => trivial
  | some a => cle_refl a
theorem ole_none (a : Option C) : ole a none := by cases a <;> trivial
theorem ole_trans {a b c : Option C} (h : ole a b) (k : ole b c) : ole a c := by
  cases c with
  | none => exact ole_none a
  | some c => cases b with
    | none => exact k.elim
    | some b => cases a with
      | none => exact h.elim
      | some a => exact cle_trans h k
theorem ole_anti {a b : Option C} (h : ole a b) (k : ole b a) : a = b := by
  cases a with
  | none => cases b with
    | none => rfl
    | some b => exact h.elim
  | some a => cases b with
    | none => exact k.elim
    | some b => exact congrArg some (cle_anti h k)
theorem ole_total (a b : Option C) : ole a b ∨ ole b a := by
  cases b with
  | none => exact .inl (ole_none a)
  | some b => cases a with
    | none => exact .inr (ole_none _)
    | some a => exact cle_total a b
theorem ole_some {a : Option C} {c : C} (h : ole a (some c)) : ∃ b, a = some b ∧ cle b c := by
  cases a with
  | none => exact h.elim
  | some b => exact ⟨b, rfl, h⟩
theorem oadd_mono {a b c d : Option C} (h : ole a b) (k : ole c d) : ole (oadd a c) (oadd b d) := by
  cases b with
  | none => exact ole_none _
  | some b => cases d with
    | none => exact ole_none _
    | some d =>
      obtain ⟨a, rfl, h⟩ := ole_some h
      obtain ⟨c, rfl, k⟩ := ole_some k
      exact cadd_mono h k
theorem oadd_assoc (a b c : Option C) : oadd (oadd a b) c = oadd a (oadd b c) := by
  cases a <;> cases b <;> cases c <;> simp [oadd, cadd_assoc]
theorem oadd_comm (a b : Option C) : oadd a b = oadd b a := by
  cases a <;> cases b <;> simp [oadd, cadd_comm]
theorem oadd_z (a : Option C) : oadd a (some (0, 0)) = a := by cases a <;> simp [oadd, cadd_z]
theorem oadd_zl (a : Option C) : oadd (some (0, 0)) a = a := by cases a <;> simp [oadd, cadd_zl]
theorem oadd_none (a : Option C) : oadd a none = none := by cases a <;> rfl
theorem oadd_nonel (a : Option C) : oadd none a = none := by cases a <;> rfl
/-- the lesser one -/
def lmin (a b : Option C) : Option C := match a, b with
  | none, b => b
  | a, none => a
  | some a, some b => if clt b a = true then some b else some a
theorem lmin_or (a b : Option C) : (lmin a b = a ∧ ole a b) ∨ (lmin a b = b ∧ ¬ ole a b) := by
  cases a with
  | none => cases b with
    | none => exact .inl ⟨rfl, trivial⟩
    | some b => exact .inr ⟨rfl, id⟩
  | some a => cases b with
    | none => exact .inl ⟨rfl, trivial⟩
    | some b =>
      have hm : lmin (some a) (some b) = if clt b a = true then some b else some a := rfl
      rw [hm]
      by_cases h : clt b a = true
      · rw [if_pos h]; exact .inr ⟨rfl, clt_iff.mp h⟩
      · rw [if_neg h]
        refine .inl ⟨rfl, ?_⟩
        by_cases k : cle a b
        · exact k
        · exact absurd (clt_iff.mpr k) h
theorem lmin_le_l (a b : Option C) : ole (lmin a b) a := by
  rcases lmin_or a b with ⟨h, _⟩ | ⟨h, k⟩
  · rw [h]; exact ole_refl a
  · rw [h]; exact (ole_total a b).elim (fun z => absurd z k) id
theorem lmin_le_r (a b : Option C) : ole (lmin a b) b := by
  rcases lmin_or a b with ⟨h, k⟩ | ⟨h, _⟩
  · rw [h]; exact k
  · rw [h]; exact ole_refl b
theorem le_lmin {a b c : Option C} (h : ole c a) (k : ole c b) : ole c (lmin a b) := by
  rcases lmin_or a b with ⟨e, _⟩ | ⟨e, _⟩ <;> rw [e] <;> assumption
theorem lmin_eq_l {a b : Option C} (h : ole a b) : lmin a b = a := ole_anti (lmin_le_l a b) (le_lmin (ole_refl a) h)
theorem lmin_none (a : Option C) : lmin a none = a := lmin_eq_l (ole_none a)
theorem lmin_comm (a b : Option C) : lmin a b = lmin b a := ole_anti (le_lmin (lmin_le_r _ _) (lmin_le_l _ _)) (le_lmin (lmin_le_r _ _) (lmin_le_l _ _))
theorem lmin_assoc (a b c : Option C) : lmin (lmin a b) c = lmin a (lmin b c) :=
  ole_anti (le_lmin (ole_trans (lmin_le_l _ _) (lmin_le_l _ _)) (le_lmin (ole_trans (lmin_le_l _ _) (lmin_le_r _ _)) (lmin_le_r _ _)))
    (le_lmin (le_lmin (lmin_le_l _ _) (ole_trans (lmin_le_r _ _) (lmin_le_l _ _))) (ole_trans (lmin_le_r _ _) (lmin_le_r _ _)))
theorem some_cmin (r : List C) : ∀ a : C, some (cmin a r) = lmin (some a) (match r with
    | [] => none
    | b :: t => some (cmin b t)) := by
  induction r with
  | nil => intro a; exact (lmin_none _).symm
  | cons b r ih =>
    intro a
    have e : some (if clt b a = true then b else a) = lmin (some a) (some b) := by
      have hm : lmin (some a) (some b) = if clt b a = true then some b else some a := rfl
      rw [hm]; split <;> rfl
    show some (cmin (if clt b a = true then b else a) r) = lmin (some a) (some (cmin b r))
    rw [ih, e, lmin_assoc, ← ih]
theorem oleast_nil : oleast [] = none := rfl
theorem oleast_cons (x : Option C) (l : List (Option C)) : oleast (x :: l) = lmin x (oleast l) := by
  unfold oleast
  cases x with
  | none => cases h : l.filterMap id <;> simp [h, lmin]
  | some a =>
    simp only [List.filterMap_cons, id]
    exact some_cmin _ a
theorem oleast_one (x : Option C) : oleast [x] = x := by rw [oleast_cons, oleast_nil, lmin_none]
theorem oleast_two (x y : Option C) : oleast [x, y] = lmin x y := by rw [oleast_cons, oleast_one]
theorem oleast_le {l : List (Option C)} {x : Option C} (h : x ∈ l) : ole (oleast l) x := by
  induction l with
  | nil => cases h
  | cons y l ih =>
    rw [oleast_cons]
    rcases List.mem_cons.mp h with rfl | h
    · exact lmin_le_l _ _
    · exact ole_trans (lmin_le_r _ _) (ih h)
theorem le_oleast {l : List (Option C)} {c : Option C} (h : ∀ x ∈ l, ole c x) : ole c (oleast l) := by
  induction l with
  | nil => exact ole_none _
  | cons y l ih =>
    rw [oleast_cons]
    exact le_lmin (h y List.mem_cons_self) (ih fun x hx => h x (List.mem_cons_of_mem _ hx))
theorem oleast_mem (l : List (Option C)) : oleast l = none ∨ oleast l ∈ l := by
  induction l with
  | nil => exact .inl rfl
  | cons y l ih =>
    rw [oleast_cons]
    rcases lmin_or y (oleast l) with ⟨e, _⟩ | ⟨e, _⟩
    · rw [e]; exact .inr List.mem_cons_self
    · rw [e]; exact ih.imp id (List.mem_cons_of_mem _)
theorem oleast_eq {l : List (Option C)} {c : Option C} (h : ∀ x ∈ l, ole c x) (k : c = none ∨ c ∈ l) : oleast l = c := by
  refine ole_anti ?_ (le_oleast h)
  rcases k with rfl | k
  · exact ole_none _
  · exact oleast_le k
theorem oleast_app (l m : List (Option C)) : oleast (l ++ m) = lmin (oleast l) (oleast m) := by
  induction l with
  | nil => rfl
  | cons x l ih => rw [List.cons_append, oleast_cons, oleast_cons, ih, lmin_assoc]
/-! ### ways -/
inductive Way (E : Nat → Nat → C → Prop) : Nat → Nat → C → Prop
  | nil (u : Nat) : Way E u u (0, 0)
  | snoc {u v w : Nat} {c d : C} : Way E u v c → E v w d → Way E u w (cadd c d)
/-- roads cost something -/
def Pos (E : Nat → Nat → C → Prop) : Prop := ∀ u v c, E u v c → 0 ≤ c.1 ∧ 1 ≤ c.2
variable {E : Nat → Nat → C → Prop} {u v w : Nat} {c d : C}
theorem Way.nn (P : Pos E) {u : Nat} : ∀ {v c}, Way E u v c → 0 ≤ c.1 ∧ 0 ≤ c.2
  | _, _, .nil _ => ⟨Int.le_refl 0, Int.le_refl 0⟩
  | _, _, .snoc h e => by
    have := Way.nn P h
    have := P _ _ _ e
    simp only [cadd]
    omega
theorem Way.app {u v : Nat} {c : C} (h : Way E u v c) : ∀ {w d}, Way E v w d → Way E u w (cadd c d)
  | _, _, .nil _ => by rw [cadd_z]; exact h
  | _, _, .snoc k e => by rw [← cadd_assoc]; exact .snoc (h.app k) e
theorem Way.one (e : E u v c) : Way E u v c := by
  have := Way.snoc (.nil u) e
  rwa [cadd_zl] at this
theorem Way.cons (e : E u v c) (h : Way E v w d) : Way E u w (cadd c d) := (Way.one e).app h
/-- the least of all ways' costs -/
structure Dst (E : Nat → Nat → C → Prop) (u v : Nat) (o : Option C) : Prop where
  le : ∀ c, Way E u v c → ole o (some c)
  at_ : ∀ c, o = some c → Way E u v c
theorem Dst.uniq {o o' : Option C} (h : Dst E u v o) (k : Dst E u v o') : o = o' := by
  refine ole_anti ?_ ?_
  · cases o' with
    | none => exact ole_none _
    | some c => exact h.le c (k.at_ c rfl)
  · cases o with
    | none => exact ole_none _
    | some c => exact k.le c (h.at_ c rfl)
theorem dst_ex (P : Pos E) (u v : Nat) : ∃ o, Dst E u v o := by
  by_cases h : ∃ c, Way E u v c
  · -- the least by length, then by count
    have go : ∀ n m : Nat, ∀ c : C, Way E u v c → c.1.toNat ≤ n → c.2.toNat ≤ m → ∃ o, Dst E u v o := by
      intro n
      induction n with
      | zero =>
        intro m
        induction m with
        | zero =>
          intro c hw h1 h2
          have := hw.nn P
          refine ⟨some c, fun d hd => ?_, fun d hd => by cases hd; exact hw⟩
          have := hd.nn P
          show cle c d
          unfold cle; omega
        | succ m ihm =>
          intro c hw h1 h2
          by_cases hs : ∃ d, Way E u v d ∧ ¬ cle c d
          · obtain ⟨d, hd, hn⟩ := hs
            have := hw.nn P
            have := hd.nn P
            unfold cle at hn
            exact ihm d hd (by omega) (by omega)
          · refine ⟨some c, fun d hd => ?_, fun d hd => by cases hd; exact hw⟩
            exact Classical.byContradiction fun z => hs ⟨d, hd, z⟩
      | succ n ihn =>
        intro m
        induction m with
        | zero =>
          intro c hw h1 h2
          by_cases hs : ∃ d, Way E u v d ∧ ¬ cle c d
          · obtain ⟨d, hd, hn⟩ := hs
            have := hw.nn P
            have := hd.nn P
            unfold cle at hn
            exact ihn d.2.toNat d hd (by omega) (Nat.le_refl _)
          · refine ⟨some c, fun d hd => ?_, fun d hd => by cases hd; exact hw⟩
            exact Classical.byContradiction fun z => hs ⟨d, hd, z⟩
        | succ m ihm =>
          intro c hw h1 h2
          by_cases hs : ∃ d, Way E u v d ∧ ¬ cle c d
          · obtain ⟨d, hd, hn⟩ := hs
            have := hw.nn P
            have := hd.nn P
            unfold cle at hn
            by_cases hl : d.1 < c.1
            · exact ihn d.2.toNat d hd (by omega) (Nat.le_refl _)
            · exact ihm d hd (by omega) (by omega)
          · refine ⟨some c, fun d hd => ?_, fun d hd => by cases hd; exact hw⟩
            exact Classical.byContradiction fun z => hs ⟨d, hd, z⟩
    obtain ⟨c, hc⟩ := h
    exact go c.1.toNat c.2.toNat c hc (Nat.le_refl _) (Nat.le_refl _)
  · exact ⟨none, fun c hc => absurd ⟨c, hc⟩ h, fun c hc => by cases hc⟩
noncomputable def dst (P : Pos E) (u v : Nat) : Option C := Classical.choose (dst_ex P u v)
theorem dst_spec (P : Pos E) (u v : Nat) : Dst E u v (dst P u v) := Classical.choose_spec (dst_ex P u v)
theorem dst_le (P : Pos E) {c : C} (h : Way E u v c) : ole (dst P u v) (some c) := (dst_spec P u v).le c h
theorem dst_at (P : Pos E) {c : C} (h : dst P u v = some c) : Way E u v c := (dst_spec P u v).at_ c h
theorem dst_self (P : Pos E) (u : Nat) : dst P u u = some (0, 0) := by
  refine (Dst.uniq (dst_spec P u u) ⟨fun c hc => ?_, fun c hc => by cases hc; exact .nil u⟩)
  have := hc.nn P
  show cle (0, 0) c
  unfold cle; simp only; omega
theorem dst_tri (P : Pos E) (u v w : Nat) : ole (dst P u w) (oadd (dst P u v) (dst P v w)) := by
  cases h : dst P u v with
  | none => rw [oadd_nonel]; exact ole_none _
  | some a => cases k : dst P v w with
    | none => exact ole_none _
    | some b => exact dst_le P ((dst_at P h).app (dst_at P k))
theorem dst_edge (P : Pos E) (e : E v w d) (u : Nat) : ole (dst P u w) (oadd (dst P u v) (some d)) :=
  ole_trans (dst_tri P u v w) (oadd_mono (ole_refl _) (dst_le P (.one e)))
/-- the last road of a least way -/
theorem dst_last (P : Pos E) (h : dst P u v = some c) (hn : v ≠ u) : ∃ x a b, dst P u x = some a ∧ E x v b ∧ c = cadd a b := by
  have hw := dst_at P h
  cases hw with
  | nil => exact absurd rfl hn
  | snoc k e =>
    rename_i x a b
    obtain ⟨a', h1, h2⟩ := ole_some (dst_le P k)
    refine ⟨x, a', b, h1, e, cle_anti ?_ ?_⟩
    · have := dst_le P (Way.snoc (dst_at P h1) e)
      rw [h] at this
      exact this
    · exact cadd_mono h2 (cle_refl _)
/-- what is no greater along each road, and starts from nought, is no greater than any way -/
theorem le_way {f : Nat → Option C} {u : Nat} (h0 : ole (f u) (some (0, 0))) (h : ∀ v w d, E v w d → ole (f w) (oadd (f v) (some d))) : ∀ {v c}, Way E u v c → ole (f v) (some c)
  | _, _, .nil _ => h0
  | _, _, .snoc k e => ole_trans (h _ _ _ e) (oadd_mono (le_way h0 h k) (ole_refl _))
theorem le_dst (P : Pos E) {f : Nat → Option C} {u : Nat} (h0 : ole (f u) (some (0, 0))) (h : ∀ v w d, E v w d → ole (f w) (oadd (f v) (some d))) (v : Nat) : ole (f v) (dst P u v) := by
  cases k : dst P u v with
  | none => exact ole_none _
  | some c => exact le_way h0 h (dst_at P k)
/-- the ways turned about -/
def rev (E : Nat → Nat → C → Prop) : Nat → Nat → C → Prop := fun u v c => E v u c
theorem Way.turn {u : Nat} : ∀ {v c}, Way E u v c → Way (rev E) v u c
  | _, _, .nil _ => .nil _
  | _, _, .snoc h e => by rw [cadd_comm]; exact Way.cons (E := rev E) e (Way.turn h)
theorem Pos.rev (P : Pos E) : Pos (rev E) := fun u v c h => P v u c h
theorem dst_rev (P : Pos E) (u v : Nat) : dst P.rev u v = dst P v u :=
  Dst.uniq (dst_spec P.rev u v) ⟨fun c h => dst_le P (by
    have := h.turn
    exact this), fun c h => (dst_at P h).turn⟩
theorem dst_congr {E' : Nat → Nat → C → Prop} (P : Pos E) (P' : Pos E') (h : ∀ u v c, E u v c ↔ E' u v c) (u v : Nat) : dst P u v = dst P' u v := by
  have : E = E' := by funext a b c; exact propext (h a b c)
  subst this
  rfl
/-- positive edges: on a least way the places get farther -/
theorem cadd_lt {a b : C} (h : 0 ≤ b.1 ∧ 1 ≤ b.2) : ¬ cle (cadd a b) a := by
  unfold cle cadd; simp only; omega
end Pd
set_option Elab.async false
set_option linter.all false
set_option maxRecDepth 100000
set_option maxHeartbeats 4000000
namespace Pd
/-! ### roads -/
structure Rd where
  s : Nat
  e : Nat
  l : Option Int
  w : Int
deriving DecidableEq
def iD : Option Int → D
  | none => .non
  | some i => .int i
def rD (r : Rd) : D := .tup [.int r.s, .int r.e, iD r.l, .int r.w]
def rcost (r : Rd) : Option C := r.l.map fun l => (l, 1)
def landD (n : Nat) (rs : List Rd) : D := .tup [.int n, .lst (rs.map rD)]
@[simp] theorem e_imm_i {a : Option Int} : imm (iD a) = true := by cases a <;> rfl
@[simp] theorem e_imm_r {r : Rd} : imm (rD r) = true := by simp [rD]
@[simp] theorem e_chk_i {a : Option Int} : chk (iD a) = some (iD a) := chk_imm e_imm_i
@[simp] theorem e_chk_r {r : Rd} : chk (rD r) = some (rD r) := chk_imm e_imm_r
@[simp] theorem e_isNon_i {a : Option Int} : isNon (iD a) = a.isNone := by cases a <;> rfl
theorem shal_i (a : Option Int) (n : Nat) : shal (iD a) n = true := by cases a <;> simp [iD, shal]
theorem shal_r (r : Rd) (n : Nat) : shal (rD r) (n + 1) = true := by simp [rD, shal, shals, shal_i]
theorem shal_o (a : Option C) (n : Nat) : shal (oD a) (n + 1) = true := by
  cases a <;> simp [oD, cD, shal, shals]
def Ed (rs : List Rd) (u v : Nat) (c : C) : Prop := ∃ r ∈ rs, r.s = u ∧ r.e = v ∧ rcost r = some c
structure Ok (n : Nat) (rs : List Rd) : Prop where
  s : ∀ r ∈ rs, r.s < n
  e : ∀ r ∈ rs, r.e < n
  l : ∀ r ∈ rs, ∀ l, r.l = some l → 0 ≤ l
theorem Ok.pos {n : Nat} {rs : List Rd} (o : Ok n rs) : Pos (Ed rs) := fun u v c ⟨r, hr, _, _, hc⟩ => by
  unfold rcost at hc
  obtain ⟨l, hl, rfl⟩ := Option.map_eq_some_iff.mp hc
  exact ⟨o.l r hr l hl, Int.le_refl _⟩
/-- the cost from a place to a place, by all ways -/
noncomputable def ds {n : Nat} {rs : List Rd} (o : Ok n rs) (u v : Nat) : Option C := dst o.pos u v
/-- costs by place -/
noncomputable def dl {n : Nat} {rs : List Rd} (o : Ok n rs) (u : Nat) : List (Option C) := (List.range n).map (ds o u)
def trn (r : Rd) : Rd := ⟨r.e, r.s, r.l, r.w⟩
theorem Ok.turn {n : Nat} {rs : List Rd} (o : Ok n rs) : Ok n (rs.map trn) where
  s := fun r hr => by
    obtain ⟨x, hx, rfl⟩ := List.mem_map.mp hr
    exact o.e x hx
  e := fun r hr => by
    obtain ⟨x, hx, rfl⟩ := List.mem_map.mp hr
    exact o.s x hx
  l := fun r hr => by
    obtain ⟨x, hx, rfl⟩ := List.mem_map.mp hr
    exact o.l x hx
theorem ds_turn {n : Nat} {rs : List Rd} (o : Ok n rs) (u v : Nat) : ds o.turn u v = ds o v u := by
  unfold ds
  rw [← dst_rev o.pos]
  refine dst_congr _ _ (fun a b c => ⟨fun ⟨r, hr, h1, h2, h3⟩ => ?_, fun ⟨r, hr, h1, h2, h3⟩ => ?_⟩) u v
  · obtain ⟨x, hx, rfl⟩ := List.mem_map.mp hr
    exact ⟨x, hx, h2, h1, h3⟩
  · exact ⟨trn r, List.mem_map.mpr ⟨r, hr, rfl⟩, h2, h1, h3⟩
/-! ### plain search -/
abbrev Cs := List (Option C)
def at' (f : Cs) (i : Nat) : Option C := f.getD i none
def relv (f : Cs) (r : Rd) : Option C := lmin (at' f r.e) (oadd (at' f r.s) (rcost r))
def relax (f : Cs) (r : Rd) : Cs := f.set r.e (relv f r)
def rnd (f : Cs) (rs : List Rd) : Cs := rs.foldl relax f
theorem at_set (f : Cs) (i j : Nat) (x : Option C) (h : i < f.length) : at' (f.set i x) j = if i = j then x else at' f j := by
  unfold at'
  rw [List.getD_eq_getElem?_getD, List.getD_eq_getElem?_getD, List.getElem?_set]
  by_cases e : i = j
  · subst e; simp [h]
  · simp [e]
theorem at_get {f : Cs} {i : Nat} (h : i < f.length) : f[i]? = some (at' f i) := by
  unfold at'
  rw [List.getD_eq_getElem?_getD, List.getElem?_eq_getElem h]
  rfl
theorem relax_len (f : Cs) (r : Rd) : (relax f r).length = f.length := List.length_set
theorem rnd_len (rs : List Rd) : ∀ f : Cs, (rnd f rs).length = f.length := by
  induction rs with
  | nil => exact fun f => rfl
  | cons r rs ih => exact fun f => (ih (relax f r)).trans (relax_len f r)
theorem relax_le {f : Cs} {r : Rd} (h : r.e < f.length) (v : Nat) : ole (at' (relax f r) v) (at' f v) := by
  unfold relax
  rw [at_set _ _ _ _ h]
  split
  · rename_i e; subst e; exact lmin_le_l _ _
  · exact ole_refl _
theorem rnd_le (rs : List Rd) : ∀ {f : Cs}, (∀ r ∈ rs, r.e < f.length) → ∀ v, ole (at' (rnd f rs) v) (at' f v) := by
  induction rs with
  | nil => exact fun _ v => ole_refl _
  | cons r rs ih => exact fun h v => ole_trans (ih (f := relax _ r) (fun x hx => by rw [relax_len]; exact h x (List.mem_cons_of_mem _ hx)) v) (relax_le (h r List.mem_cons_self) v)
variable {n : Nat} {rs : List Rd}
/-- never below the least -/
def Abv (o : Ok n rs) (u : Nat) (f : Cs) : Prop := f.length = n ∧ ∀ v, ole (ds o u v) (at' f v)
theorem Abv.relax {o : Ok n rs} {u : Nat} {f : Cs} (h : Abv o u f) {r : Rd} (hr : r ∈ rs) : Abv o u (relax f r) := by
  refine ⟨(relax_len f r).trans h.1, fun v => ?_⟩
  unfold Pd.relax
  rw [at_set _ _ _ _ (by rw [h.1]; exact o.e r hr)]
  split
  · rename_i e
    subst e
    refine le_lmin (h.2 _) ?_
    cases hc : rcost r with
    | none => rw [oadd_none]; exact ole_none _
    | some c => exact ole_trans (dst_edge o.pos ⟨r, hr, rfl, rfl, hc⟩ u) (oadd_mono (h.2 _) (ole_refl _))
  · exact h.2 v
theorem Abv.rnd {o : Ok n rs} {u : Nat} : ∀ (l : List Rd) {f : Cs}, Abv o u f → (∀ r ∈ l, r ∈ rs) → Abv o u (rnd f l)
  | [], _, h, _ => h
  | r :: l, _, h, k => Abv.rnd l (h.relax (k r List.mem_cons_self)) fun x hx => k x (List.mem_cons_of_mem _ hx)
/-- settled: those that are the least already -/
theorem settled_rnd {o : Ok n rs} {u : Nat} {l : List Rd} {f : Cs} (h : Abv o u f) (k : ∀ r ∈ l, r ∈ rs) {v : Nat} (e : at' f v = ds o u v) : at' (rnd f l) v = ds o u v :=
  ole_anti (by rw [← e]; exact rnd_le l (fun r hr => by rw [h.1]; exact o.e r (k r hr)) v) ((h.rnd l k).2 v)
def uns (o : Ok n rs) (u : Nat) (f : Cs) (v : Nat) : Prop := at' f v ≠ ds o u v
theorem settles {o : Ok n rs} {u : Nat} {f : Cs} (h : Abv o u f) (h0 : at' f u = some (0, 0)) {v0 : Nat} (hv0 : v0 < n) (hu : at' f v0 ≠ ds o u v0) : ∃ v, v < n ∧ at' f v ≠ ds o u v ∧ at' (rnd f rs) v = ds o u v := by
  classical
  let L : List Nat := (List.range n).filter fun v => decide (at' f v ≠ ds o u v)
  have hL : ∀ v, v ∈ L ↔ v < n ∧ at' f v ≠ ds o u v := fun v => by simp [L]
  have fin : ∀ v, at' f v ≠ ds o u v → ∃ c, ds o u v = some c := fun v hv => by
    cases hd : ds o u v with
    | some c => exact ⟨c, rfl⟩
    | none =>
      have := h.2 v
      rw [hd] at this hv
      cases hf : at' f v with
      | none => exact absurd hf hv
      | some c => rw [hf] at this; exact this.elim
  obtain ⟨c, hc, hm⟩ : ∃ c, oleast (L.map (ds o u)) = some c ∧ some c ∈ L.map (ds o u) := by
    rcases oleast_mem (L.map (ds o u)) with z | z
    · have := oleast_le (List.mem_map.mpr ⟨v0, (hL v0).mpr ⟨hv0, hu⟩, rfl⟩ : ds o u v0 ∈ L.map (ds o u))
      rw [z] at this
      obtain ⟨c, hc⟩ := fin v0 hu
      rw [hc] at this
      exact this.elim
    · obtain ⟨x, hx, e⟩ := List.mem_map.mp z
      obtain ⟨c, hc⟩ := fin x ((hL x).mp hx).2
      exact ⟨c, by rw [← e, hc], by rw [← hc, e]; exact z⟩
  obtain ⟨v, hv, hd⟩ := List.mem_map.mp hm
  obtain ⟨hv1, hv2⟩ := (hL v).mp hv
  refine ⟨v, hv1, hv2, ?_⟩
  have hne : v ≠ u := fun e => by
    subst e
    apply hv2
    rw [h0]
    exact (dst_self o.pos _).symm
  obtain ⟨x, a, b, h1, h2, h3⟩ := dst_last o.pos hd hne
  have hb := o.pos _ _ _ h2
  have hx : at' f x = some a := by
    refine Classical.byContradiction fun z => ?_
    have hxn : x < n := by
      obtain ⟨r, hr, e, _, _⟩ := h2
      rw [← e]; exact o.s r hr
    have hz : at' f x ≠ ds o u x := by
      intro e
      exact z (e.trans h1)
    have := oleast_le (List.mem_map.mpr ⟨x, (hL x).mpr ⟨hxn, hz⟩, rfl⟩ : ds o u x ∈ L.map (ds o u))
    rw [hc] at this
    have e1 : ds o u x = some a := h1
    rw [e1] at this
    have this : cle c a := this
    rw [h3] at this
    exact cadd_lt hb this
  obtain ⟨r, hr, e1, e2, e3⟩ := h2
  obtain ⟨l1, l2, e⟩ := List.append_of_mem hr
  have m1 : ∀ y ∈ l1, y ∈ rs := fun y hy => by rw [e]; exact List.mem_append_left _ hy
  have m2 : ∀ y ∈ l2, y ∈ rs := fun y hy => by rw [e]; exact List.mem_append_right _ (List.mem_cons_of_mem _ hy)
  have hr' : rnd f rs = rnd (relax (rnd f l1) r) l2 := by
    conv => lhs; rw [e]
    unfold rnd
    rw [List.foldl_append, List.foldl_cons]
  rw [hr']
  have A1 := h.rnd l1 m1
  have A2 := A1.relax hr
  refine settled_rnd A2 m2 (ole_anti ?_ (A2.2 v))
  unfold relax
  rw [at_set _ _ _ _ (by rw [A1.1]; exact o.e r hr), if_pos e2]
  refine ole_trans (lmin_le_r _ _) ?_
  have hx1 : at' (rnd f l1) x = ds o u x := settled_rnd h m1 (by rw [hx]; exact h1.symm)
  have e0 : ds o u x = some a := h1
  rw [e1, hx1, e0, e3, hd, h3]
  exact ole_refl _
theorem cnt_lt {p q : Nat → Bool} : ∀ (l : List Nat), (∀ x, q x = true → p x = true) → (∃ x ∈ l, p x = true ∧ q x = false) → (l.filter q).length < (l.filter p).length
  | [], _, ⟨x, hx, _⟩ => nomatch hx
  | y :: l, h, ⟨x, hx, h1, h2⟩ => by
    have le : ∀ l : List Nat, (l.filter q).length ≤ (l.filter p).length := by
      intro l
      induction l with
      | nil => exact Nat.le_refl _
      | cons z l ih =>
        simp only [List.filter_cons]
        by_cases hq : q z = true
        · simp [hq, h z hq]; exact ih
        · simp only [Bool.not_eq_true] at hq
          simp only [hq, Bool.false_eq_true, if_false]
          split
          · simp; omega
          · exact ih
    simp only [List.filter_cons]
    rcases List.mem_cons.mp hx with rfl | hx
    · simp only [h1, h2, Bool.false_eq_true, if_false, if_true, List.length_cons]
      have := le l
      omega
    · have ih := cnt_lt l h ⟨x, hx, h1, h2⟩
      by_cases hq : q y = true
      · simp [hq, h y hq]; exact ih
      · simp only [Bool.not_eq_true] at hq
        simp only [hq, Bool.false_eq_true, if_false]
        split
        · simp; omega
        · exact ih
open Classical in
/-- how many are not settled -/
noncomputable def left (o : Ok n rs) (u : Nat) (f : Cs) : Nat := ((List.range n).filter fun v => decide (at' f v ≠ ds o u v)).length
theorem left_le (o : Ok n rs) (u : Nat) (f : Cs) : left o u f ≤ n := by
  unfold left
  exact Nat.le_trans (List.length_filter_le _ _) (by rw [List.length_range]; exact Nat.le_refl _)
theorem left_lt {o : Ok n rs} {u : Nat} {f : Cs} (h : Abv o u f) (h0 : at' f u = some (0, 0)) {v0 : Nat} (hv0 : v0 < n) (hu : at' f v0 ≠ ds o u v0) : left o u (rnd f rs) < left o u f := by
  classical
  obtain ⟨v, h1, h2, h3⟩ := settles h h0 hv0 hu
  unfold left
  refine cnt_lt _ (fun x hx => ?_) ⟨v, List.mem_range.mpr h1, by simpa using h2, by simpa using h3⟩
  simp only [decide_eq_true_eq] at hx ⊢
  exact fun e => hx (settled_rnd h (fun _ z => z) e)
theorem done_eq {o : Ok n rs} {u : Nat} {f : Cs} (h : Abv o u f) (hs : ∀ v, v < n → at' f v = ds o u v) : f = dl o u := by
  refine List.ext_getElem? fun i => ?_
  unfold dl
  by_cases hi : i < n
  · rw [at_get (by rw [h.1]; exact hi), hs i hi]
    simp [hi]
  · rw [List.getElem?_eq_none (by rw [h.1]; omega), List.getElem?_eq_none (by simp; omega)]
theorem dl_len (o : Ok n rs) (u : Nat) : (dl o u).length = n := by simp [dl]
theorem dl_at (o : Ok n rs) (u : Nat) {v : Nat} (h : v < n) : (dl o u)[v]? = some (ds o u v) := by simp [dl, h]
theorem dl_at' (o : Ok n rs) (u : Nat) {v : Nat} (h : v < n) : at' (dl o u) v = ds o u v := by
  have := at_get (f := dl o u) (i := v) (by rw [dl_len]; exact h)
  rw [dl_at o u h] at this
  exact (Option.some.inj this).symm
/-- nothing changes along the settled -/
theorem dl_relv (o : Ok n rs) (u : Nat) {r : Rd} (hr : r ∈ rs) : relv (dl o u) r = at' (dl o u) r.e := by
  unfold relv
  rw [dl_at' o u (o.e r hr), dl_at' o u (o.s r hr)]
  refine lmin_eq_l ?_
  cases hc : rcost r with
  | none => rw [oadd_none]; exact ole_none _
  | some c => exact dst_edge o.pos ⟨r, hr, rfl, rfl, hc⟩ u
/-- what a place costs: the least over the roads to it -/
theorem ds_bell (o : Ok n rs) {u v : Nat} (hv : v ≠ u) : ds o u v = oleast ((rs.filter fun r => decide (r.e = v)).map fun r => oadd (ds o u r.s) (rcost r)) := by
  symm
  refine oleast_eq (fun x hx => ?_) ?_
  · obtain ⟨r, hr, rfl⟩ := List.mem_map.mp hx
    obtain ⟨hr', he⟩ := List.mem_filter.mp hr
    simp only [decide_eq_true_eq] at he
    subst he
    cases hc : rcost r with
    | none => rw [oadd_none]; exact ole_none _
    | some c => exact dst_edge o.pos ⟨r, hr', rfl, rfl, hc⟩ u
  · cases hd : ds o u v with
    | none => exact .inl rfl
    | some c =>
      obtain ⟨x, a, b, h1, ⟨r, hr, e1, e2, e3⟩, h3⟩ := dst_last o.pos hd hv
      refine .inr (List.mem_map.mpr ⟨r, List.mem_filter.mpr ⟨hr, by simpa using e2⟩, ?_⟩)
      have e0 : ds o u x = some a := h1
      rw [e1, e0, e3, h3]
      rfl
end Pd
set_option Elab.async false
set_option linter.all false
set_option maxRecDepth 100000
set_option maxHeartbeats 4000000
namespace Pd
open PySem L2
/-! ### what is told alike is alike -/
structure Eqs {α : Type} [DecidableEq α] (en : α → D) (k : Nat) : Prop where
  sh : ∀ a n, k ≤ n → shal (en a) n = true
  eq : ∀ a b, PyData.eqv (toP (en a)) (toP (en b)) = decide (a = b)
theorem Eqs.eqD {α : Type} [DecidableEq α] {en : α → D} {k : Nat} (h : Eqs en k) (a b : α) (hk : k ≤ 12 := by decide) : eqD (en a) (en b) = some (decide (a = b)) := by
  unfold Pd.eqD
  rw [h.sh a 12 hk, h.sh b 12 hk, if_pos (by rfl), h.eq]
theorem Eqs.neD {α : Type} [DecidableEq α] {en : α → D} {k : Nat} (h : Eqs en k) (a b : α) (hk : k ≤ 12 := by decide) : neD (en a) (en b) = some (!decide (a = b)) := by
  unfold Pd.neD
  rw [h.sh a 12 hk, h.sh b 12 hk, if_pos (by rfl), h.eq]
theorem eqs_int : Eqs D.int 0 := ⟨fun a n _ => by simp [shal], fun a b => by simp [toP, PyData.eqv]; exact beq_dec _ _⟩
theorem eqs_bl : Eqs D.bl 0 := ⟨fun a n _ => by simp [shal], fun a b => by cases a <;> cases b <;> simp [toP, PyData.eqv]⟩
theorem eqs_i : Eqs iD 0 := ⟨fun a n _ => shal_i a n, fun a b => by
  cases a <;> cases b <;> simp [iD, toP, PyData.eqv]
  exact beq_dec _ _⟩
theorem eqs_c : Eqs cD 1 := ⟨fun a n h => by
  obtain ⟨m, rfl⟩ := Nat.exists_eq_add_of_le h
  rw [Nat.add_comm]; exact shal_cost a m, fun a b => by
  simp only [cD, toP, toPs, PyData.eqv, PyData.eqvAll, Bool.and_true, beq_dec, ← Bool.decide_and]
  exact decide_eq_decide.mpr ⟨fun ⟨h, k⟩ => Prod.ext h k, fun h => by rw [h]; exact ⟨rfl, rfl⟩⟩⟩
theorem eqs_o : Eqs oD 1 := ⟨fun a n h => by
  obtain ⟨m, rfl⟩ := Nat.exists_eq_add_of_le h
  rw [Nat.add_comm]; exact shal_o a m, fun a b => by
  cases a with
  | none => cases b with
    | none => simp [oD, toP, PyData.eqv]
    | some b => simp [oD, cD, toP, PyData.eqv]
  | some a => cases b with
    | none => simp [oD, cD, toP, PyData.eqv]
    | some b => rw [show oD (some a) = cD a from rfl, show oD (some b) = cD b from rfl, eqs_c.eq]; simp⟩
theorem eqs_r : Eqs rD 1 := ⟨fun a n h => by
  obtain ⟨m, rfl⟩ := Nat.exists_eq_add_of_le h
  rw [Nat.add_comm]; exact shal_r a m, fun a b => by
  obtain ⟨s, e, l, w⟩ := a
  obtain ⟨s', e', l', w'⟩ := b
  have := eqs_i.eq l l'
  simp only [rD, toP, toPs, PyData.eqv, PyData.eqvAll, Bool.and_true, beq_dec, this, ← Bool.decide_and]
  refine decide_eq_decide.mpr ⟨fun ⟨h1, h2, h3, h4⟩ => ?_, fun h => ?_⟩
  · have h1 : s = s' := by omega
    have h2 : e = e' := by omega
    rw [h1, h2, h3, h4]
  · injection h with h1 h2 h3 h4
    rw [h1, h2, h3, h4]
    exact ⟨rfl, rfl, rfl, rfl⟩⟩
theorem eqvAll_map {α : Type} [DecidableEq α] {en : α → D} {k : Nat} (h : Eqs en k) : ∀ a b : List α, PyData.eqvAll (toPs (a.map en)) (toPs (b.map en)) = decide (a = b)
  | [], [] => by simp [toPs, PyData.eqvAll]
  | [], b :: bs => by simp [toPs, PyData.eqvAll]
  | a :: as, [] => by simp [toPs, PyData.eqvAll]
  | a :: as, b :: bs => by
    simp only [List.map_cons, toPs, PyData.eqvAll, h.eq, eqvAll_map h as bs, ← Bool.decide_and]
    exact decide_eq_decide.mpr (by simp)
theorem shals_map' {α : Type} {en : α → D} {n : Nat} : ∀ xs : List α, (∀ x ∈ xs, shal (en x) n = true) → shals (xs.map en) n = true
  | [], _ => rfl
  | x :: xs, h => by rw [List.map_cons, shals, h x List.mem_cons_self, shals_map' xs fun y hy => h y (List.mem_cons_of_mem _ hy)]; rfl
theorem eqs_lst {α : Type} [DecidableEq α] {en : α → D} {k : Nat} (h : Eqs en k) : Eqs (fun l : List α => D.lst (l.map en)) (k + 1) := ⟨fun a n hn => by
  obtain ⟨m, rfl⟩ := Nat.exists_eq_add_of_le hn
  rw [show k + 1 + m = (k + m) + 1 by omega]
  simp only [shal]
  exact shals_map' a fun x _ => h.sh x _ (by omega), fun a b => by
  simp only [toP, PyData.eqv]
  exact eqvAll_map h a b⟩
theorem eqs_land : Eqs (fun p : Nat × List Rd => landD p.1 p.2) 3 := ⟨fun a n hn => by
  obtain ⟨m, rfl⟩ := Nat.exists_eq_add_of_le hn
  rw [show 3 + m = (2 + m) + 1 by omega]
  have := (eqs_lst eqs_r).sh a.2 (2 + m) (by omega)
  simp only [landD, shal, shals, Bool.and_true, Bool.true_and]
  exact this, fun a b => by
  have := (eqs_lst eqs_r).eq a.2 b.2
  simp only [landD, toP, toPs, PyData.eqv, PyData.eqvAll, Bool.and_true, beq_dec] at this ⊢
  rw [this, ← Bool.decide_and]
  refine decide_eq_decide.mpr ⟨fun ⟨h, k⟩ => Prod.ext (by omega) k, fun h => by rw [h]; exact ⟨rfl, rfl⟩⟩⟩
/-! ### maps -/
structure Okm (n : Nat) (rs : List Rd) : Prop extends Ok n rs where
  ne : ∀ r ∈ rs, r.s ≠ r.e
  lb : ∀ r ∈ rs, ∀ l, r.l = some l → l < 10 ^ 60
  w0 : ∀ r ∈ rs, 0 ≤ r.w
  wb : ∀ r ∈ rs, r.w < 10 ^ 60
theorem Okm.nil {n : Nat} : Okm n [] where
  s := fun _ h => nomatch h
  e := fun _ h => nomatch h
  l := fun _ h => nomatch h
  ne := fun _ h => nomatch h
  lb := fun _ h => nomatch h
  w0 := fun _ h => nomatch h
  wb := fun _ h => nomatch h
theorem Ok.sub {n : Nat} {rs rs' : List Rd} (o : Ok n rs) (h : ∀ r ∈ rs', r ∈ rs) : Ok n rs' := ⟨fun r hr => o.s r (h r hr), fun r hr => o.e r (h r hr), fun r hr => o.l r (h r hr)⟩
theorem Okm.sub {n : Nat} {rs rs' : List Rd} (o : Okm n rs) (h : ∀ r ∈ rs', r ∈ rs) : Okm n rs' := ⟨o.toOk.sub h, fun r hr => o.ne r (h r hr), fun r hr => o.lb r (h r hr), fun r hr => o.w0 r (h r hr), fun r hr => o.wb r (h r hr)⟩
theorem Okm.app {n : Nat} {rs rs' : List Rd} (o : Okm n rs) (o' : Okm n rs') : Okm n (rs ++ rs') :=
  ⟨⟨fun r hr => (List.mem_append.mp hr).elim (o.s r) (o'.s r), fun r hr => (List.mem_append.mp hr).elim (o.e r) (o'.e r), fun r hr => (List.mem_append.mp hr).elim (o.l r) (o'.l r)⟩,
    fun r hr => (List.mem_append.mp hr).elim (o.ne r) (o'.ne r), fun r hr => (List.mem_append.mp hr).elim (o.lb r) (o'.lb r), fun r hr => (List.mem_append.mp hr).elim (o.w0 r) (o'.w0 r), fun r hr => (List.mem_append.mp hr).elim (o.wb r) (o'.wb r)⟩
theorem Okm.one {n : Nat} {r : Rd} (h1 : r.s < n) (h2 : r.e < n) (h3 : r.s ≠ r.e) (h4 : ∀ l, r.l = some l → 0 ≤ l ∧ l < 10 ^ 60) (h5 : 0 ≤ r.w ∧ r.w < 10 ^ 60) : Okm n [r] := by
  have e : ∀ x ∈ [r], x = r := fun x hx => List.mem_singleton.mp hx
  exact ⟨⟨fun x hx => by rw [e x hx]; exact h1, fun x hx => by rw [e x hx]; exact h2, fun x hx => by rw [e x hx]; exact fun l hl => (h4 l hl).1⟩, fun x hx => by rw [e x hx]; exact h3, fun x hx => by rw [e x hx]; exact fun l hl => (h4 l hl).2, fun x hx => by rw [e x hx]; exact h5.1, fun x hx => by rw [e x hx]; exact h5.2⟩
theorem at_ex {xs : List D} {i : Int} (h0 : 0 ≤ i) (h1 : i < xs.length) : ∃ d ∈ xs, atI xs i = some d := by
  obtain ⟨k, rfl⟩ := Int.eq_ofNat_of_zero_le h0
  have hk : k < xs.length := by exact_mod_cast h1
  exact ⟨xs[k], List.getElem_mem hk, at_nat (List.getElem?_eq_getElem hk)⟩
/-- a script's cell -/
def Cell (i : Int) : Prop := i.natAbs < 2 ^ 1048577
theorem Cell.of {i : Int} (h : Builtin.Int.intBits i ≤ 1048576) : Cell i := by
  unfold Builtin.Int.intBits at h
  unfold Cell
  split at h
  · rename_i z
    have : i.natAbs = 0 := by simpa using z
    rw [this]; exact Nat.two_pow_pos _
  · have := Nat.lt_log2_self (n := i.natAbs)
    exact Nat.lt_of_lt_of_le this (Nat.pow_le_pow_right (by decide) (by omega))
theorem Cell.add {i j : Int} (h : Cell i) (hj : j.natAbs < 2 ^ 1000) : Big (i + j) := by
  unfold Cell at h
  unfold Big
  rw [BIG_eq]
  have a1 : (2 ^ 1048577 + 2 ^ 1000 : Nat) ≤ 2 ^ 1100000 := by
    have e1 : (2 ^ 1000 : Nat) ≤ 2 ^ 1048577 := Nat.pow_le_pow_right (by decide) (by decide)
    have e2 : (2 ^ 1048578 : Nat) ≤ 2 ^ 1100000 := Nat.pow_le_pow_right (by decide) (by decide)
    have e3 : (2 ^ 1048578 : Nat) = 2 ^ 1048577 * 2 := by
      rw [← Nat.pow_succ]
    generalize (2 ^ 1100000 : Nat) = N at *
    generalize (2 ^ 1048577 : Nat) = M at *
    generalize (2 ^ 1000 : Nat) = L at *
    generalize (2 ^ 1048578 : Nat) = L at *
    omega
  generalize (2 ^ 1100000 : Nat) = N at *
  generalize (2 ^ 1048577 : Nat) = M at *
  generalize (2 ^ 1000 : Nat) = L at *
  omega
theorem Cell.big {i : Int} (h : Cell i) : Big i := by
  have := h.add (j := 0) (Nat.two_pow_pos _)
  rwa [Int.add_zero] at this
end Pd
namespace Pd
theorem bols_true {α : Type} (l : List α) : bolsOf (l.map fun _ => D.bl true) = some (l.map fun _ => true) := by
  induction l with
  | nil => rfl
  | cons a l ih => simp only [List.map_cons, bolsOf, ih]
theorem all_true {α : Type} (l : List α) : allS [.lst (l.map fun _ => D.bl true)] = some (.bl true) := by
  show ((some (l.map fun _ => D.bl true)).bind bolsOf).map _ = _
  rw [Option.bind_some, bols_true]
  simp
end Pd
namespace Pd
theorem cut_mid (xs : List D) (a b : Nat) : cutD xs (some (a : Int)) (some (b : Int)) = (xs.drop a).take (b - a) := by
  unfold cutD
  rw [HT.sIx_nat, HT.sIx_nat]
  refine List.ext_getElem? fun i => ?_
  simp only [List.getElem?_take, List.getElem?_drop]
  by_cases h : min a xs.length + i < xs.length
  · have e : min a xs.length = a := by omega
    rw [e]
    by_cases k : i < b - a
    · rw [if_pos k, if_pos (by omega)]
    · rw [if_neg k, if_neg (by omega)]
  · rw [List.getElem?_eq_none (by omega), List.getElem?_eq_none (i := a + i) (by omega)]
    simp
theorem cut_to (xs : List D) (b : Nat) : cutD xs none (some (b : Int)) = xs.take b := by
  have := cut_mid xs 0 b
  simpa [cutD, HT.sIx_nat, HT.sIx_none] using this
theorem cut_from (xs : List D) (a : Nat) : cutD xs (some (a : Int)) none = xs.drop a := by
  unfold cutD
  rw [HT.sIx_nat, HT.sIx_none]
  refine List.ext_getElem? fun i => ?_
  simp only [List.getElem?_take, List.getElem?_drop]
  by_cases h : min a xs.length + i < xs.length
  · have e : min a xs.length = a := by omega
    rw [e, if_pos (by omega)]
  · rw [List.getElem?_eq_none (by omega), List.getElem?_eq_none (i := a + i) (by omega)]
    simp
@[simp] theorem e_sl_lst (l : List D) (lo hi : Option Int) : slD (.lst l) lo hi = some (.lst (cutD l lo hi)) := rfl
@[simp] theorem e_sl_fz (l : List D) (lo hi : Option Int) : slD (.fz l) lo hi = some (.lst (cutD l lo hi)) := rfl
theorem slz_mid (ns : List Int) (a b : Nat) : slD (.fz (ns.map D.int)) (some (a : Int)) (some (b : Int)) = some (.lst (((ns.drop a).take (b - a)).map D.int)) := by
  rw [e_sl_fz, cut_mid, ← List.map_drop, ← List.map_take]
theorem slz_from (ns : List Int) (a : Nat) : slD (.fz (ns.map D.int)) (some (a : Int)) none = some (.lst ((ns.drop a).map D.int)) := by
  rw [e_sl_fz, cut_from, ← List.map_drop]
theorem slz_to (ns : List Int) (a : Nat) : slD (.fz (ns.map D.int)) none (some (a : Int)) = some (.lst ((ns.take a).map D.int)) := by
  rw [e_sl_fz, cut_to, ← List.map_take]
end Pd
set_option Elab.async false
set_option linter.all false
set_option maxRecDepth 100000
set_option maxHeartbeats 4000000
namespace Pd
/-! ### ways whose places between are some places -/
inductive Wk (E : Nat → Nat → C → Prop) (S : Nat → Prop) : Nat → Nat → C → Prop
  | nil (u : Nat) : Wk E S u u (0, 0)
  | one {u v : Nat} {c : C} : E u v c → Wk E S u v c
  | snoc {u v w : Nat} {c d : C} : Wk E S u v c → S v → E v w d → Wk E S u w (cadd c d)
variable {E : Nat → Nat → C → Prop} {S S' : Nat → Prop} {u v w k : Nat} {c d : C}
theorem Wk.way {u : Nat} : ∀ {v c}, Wk E S u v c → Way E u v c
  | _, _, .nil _ => .nil _
  | _, _, .one e => Way.one e
  | _, _, .snoc h _ e => .snoc (Wk.way h) e
theorem Wk.nn (P : Pos E) (h : Wk E S u v c) : 0 ≤ c.1 ∧ 0 ≤ c.2 := h.way.nn P
theorem Wk.mono (h : ∀ x, S x → S' x) {u : Nat} : ∀ {v c}, Wk E S u v c → Wk E S' u v c
  | _, _, .nil _ => .nil _
  | _, _, .one e => .one e
  | _, _, .snoc w s e => .snoc (Wk.mono h w) (h _ s) e
theorem Wk.split (P : Pos E) (hS : ∀ x, S' x → S x ∨ x = k) {u : Nat} : ∀ {w c}, Wk E S' u w c → Wk E S u w c ∨ ∃ c1 c2, Wk E S u k c1 ∧ Wk E S k w c2 ∧ cle (cadd c1 c2) c
  | _, _, .nil _ => .inl (.nil _)
  | _, _, .one e => .inl (.one e)
  | _, _, .snoc (v := v) (c := c) (d := d) h s e => by
    rcases Wk.split P hS h with h1 | ⟨c1, c2, h1, h2, h3⟩
    · rcases hS _ s with z | z
      · exact .inl (.snoc h1 z e)
      · subst z
        exact .inr ⟨_, _, h1, .one e, cle_refl _⟩
    · rcases hS _ s with z | z
      · exact .inr ⟨c1, _, h1, .snoc h2 z e, by rw [← cadd_assoc]; exact cadd_mono h3 (cle_refl _)⟩
      · subst z
        refine .inr ⟨c1, d, h1, .one e, cadd_mono (cle_trans ?_ h3) (cle_refl _)⟩
        have := h2.nn P
        unfold cle cadd; simp only; omega
theorem Way.wk (h : ∀ x y c, E x y c → S x) {u : Nat} : ∀ {v c}, Way E u v c → Wk E S u v c
  | _, _, .nil _ => .nil _
  | _, _, .snoc w e => .snoc (Way.wk h w) (h _ _ _ e) e
/-! ### tables -/
abbrev Tb := List Cs
def tat (T : Tb) (u w : Nat) : Option C := at' (T.getD u []) w
def tput (T : Tb) (u w : Nat) (x : Option C) : Tb := T.set u ((T.getD u []).set w x)
structure Shp (n : Nat) (T : Tb) : Prop where
  len : T.length = n
  row : ∀ u, u < n → (T.getD u []).length = n
theorem Shp.put {n : Nat} {T : Tb} (s : Shp n T) {u w : Nat} {x : Option C} : Shp n (tput T u w x) := by
  refine ⟨by unfold tput; rw [List.length_set]; exact s.len, fun i hi => ?_⟩
  unfold tput
  rw [List.getD_eq_getElem?_getD, List.getElem?_set]
  by_cases e : u = i
  · subst e
    rw [if_pos rfl, if_pos (by rw [s.len]; exact hi)]
    simp only [Option.getD_some, List.length_set]
    exact s.row u hi
  · rw [if_neg e, ← List.getD_eq_getElem?_getD]
    exact s.row i hi
theorem tat_put {n : Nat} {T : Tb} (s : Shp n T) {u w : Nat} (hu : u < n) (hw : w < n) (x : Option C) (i j : Nat) : tat (tput T u w x) i j = if u = i ∧ w = j then x else tat T i j := by
  unfold tput tat
  rw [List.getD_eq_getElem?_getD, List.getElem?_set]
  by_cases e : u = i
  · subst e
    rw [if_pos rfl, if_pos (by rw [s.len]; exact hu)]
    simp only [Option.getD_some]
    rw [at_set _ _ _ _ (by rw [s.row u hu]; exact hw)]
    by_cases e2 : w = j
    · rw [if_pos e2, if_pos ⟨trivial, e2⟩]
    · rw [if_neg e2, if_neg (fun z => e2 z.2)]
  · rw [if_neg e, if_neg (fun z => e z.1), ← List.getD_eq_getElem?_getD]
variable {n : Nat} {rs : List Rd}
/-- the table is right for ways between over the first places -/
structure FwI (o : Ok n rs) (k : Nat) (T : Tb) : Prop where
  shp : Shp n T
  snd : ∀ u w, u < n → w < n → ole (ds o u w) (tat T u w)
  cmp : ∀ u w c, u < n → w < n → Wk (Ed rs) (· < k) u w c → ole (tat T u w) (some c)
def fwx (T : Tb) (v u w : Nat) : Option C := lmin (tat T u w) (oadd (tat T u v) (tat T v w))
/-- within the turn of a place between: what is done so far -/
structure FwT (o : Ok n rs) (v : Nat) (T0 T : Tb) (dn : Nat → Nat → Prop) : Prop where
  shp : Shp n T
  snd : ∀ u w, u < n → w < n → ole (ds o u w) (tat T u w)
  le : ∀ u w, ole (tat T u w) (tat T0 u w)
  dn : ∀ u w, u < n → w < n → dn u w → ole (tat T u w) (oadd (tat T0 u v) (tat T0 v w))
theorem FwI.start {o : Ok n rs} {k v : Nat} {T : Tb} (h : FwI o k T) : FwT o v T T fun _ _ => False := ⟨h.shp, h.snd, fun _ _ => ole_refl _, fun _ _ _ _ z => z.elim⟩
theorem FwT.step {o : Ok n rs} {v : Nat} {T0 T : Tb} {dn dn' : Nat → Nat → Prop} (h : FwT o v T0 T dn) {u w : Nat} (hv : v < n) (hu : u < n) (hw : w < n) (hd : ∀ i j, dn' i j → dn i j ∨ (i = u ∧ j = w)) : FwT o v T0 (tput T u w (fwx T v u w)) dn' := by
  have le : ∀ i j, ole (tat (tput T u w (fwx T v u w)) i j) (tat T i j) := fun i j => by
    rw [tat_put h.shp hu hw]
    split
    · rename_i e
      rw [← e.1, ← e.2]
      exact lmin_le_l _ _
    · exact ole_refl _
  refine ⟨h.shp.put, fun i j hi hj => ?_, fun i j => ole_trans (le i j) (h.le i j), fun i j hi hj z => ?_⟩
  · rw [tat_put h.shp hu hw]
    split
    · rename_i e
      rw [← e.1, ← e.2]
      exact le_lmin (h.snd u w hu hw) (ole_trans (dst_tri o.pos u v w) (oadd_mono (h.snd u v hu hv) (h.snd v w hv hw)))
    · exact h.snd i j hi hj
  · rcases hd i j z with z | ⟨rfl, rfl⟩
    · exact ole_trans (le i j) (h.dn i j hi hj z)
    · rw [tat_put h.shp hu hw, if_pos ⟨rfl, rfl⟩]
      exact ole_trans (lmin_le_r _ _) (oadd_mono (h.le _ _) (h.le _ _))
theorem FwT.fin {o : Ok n rs} {v : Nat} {T0 T : Tb} (hv : v < n) (h0 : FwI o v T0) (h : FwT o v T0 T fun i j => i < n ∧ j < n) : FwI o (v + 1) T := by
  refine ⟨h.shp, h.snd, fun u w c hu hw hc => ?_⟩
  rcases hc.split (S := (· < v)) (k := v) o.pos (fun x hx => by
    have : x < v + 1 := hx
    show x < v ∨ x = v
    omega) with h1 | ⟨c1, c2, h1, h2, h3⟩
  · exact ole_trans (h.le u w) (h0.cmp u w c hu hw h1)
  · refine ole_trans (h.dn u w hu hw ⟨hu, hw⟩) (ole_trans (oadd_mono (h0.cmp u v c1 hu hv h1) (h0.cmp v w c2 hv hw h2)) ?_)
    exact h3
theorem FwI.eq {o : Ok n rs} {T : Tb} (h : FwI o n T) {u w : Nat} (hu : u < n) (hw : w < n) : tat T u w = ds o u w := by
  refine ole_anti ?_ (h.snd u w hu hw)
  cases hd : ds o u w with
  | none => exact ole_none _
  | some c => exact h.cmp u w c hu hw ((dst_at o.pos hd).wk fun x y c ⟨r, hr, e, _, _⟩ => by rw [← e]; exact o.s r hr)
/-- the table of all costs -/
noncomputable def tb (o : Ok n rs) : Tb := (List.range n).map (dl o)
theorem FwI.tb {o : Ok n rs} {T : Tb} (h : FwI o n T) : T = tb o := by
  refine List.ext_getElem? fun i => ?_
  unfold Pd.tb
  by_cases hi : i < n
  · have hl : i < T.length := by rw [h.shp.len]; exact hi
    rw [List.getElem?_eq_getElem hl]
    have hT : T.getD i [] = T[i] := by rw [List.getD_eq_getElem?_getD, List.getElem?_eq_getElem hl]; rfl
    have e : T[i] = dl o i := by
      refine List.ext_getElem? fun j => ?_
      have hr := h.shp.row i hi
      rw [hT] at hr
      by_cases hj : j < n
      · rw [at_get (by rw [hr]; exact hj), dl_at o i hj]
        have := h.eq hi hj
        unfold tat at this
        rw [hT] at this
        rw [this]
      · rw [List.getElem?_eq_none (by omega), List.getElem?_eq_none (by rw [dl_len]; omega)]
    rw [e]
    simp [hi]
  · rw [List.getElem?_eq_none (by rw [h.shp.len]; omega), List.getElem?_eq_none (by simp; omega)]
theorem tb_len (o : Ok n rs) : (tb o).length = n := by simp [tb]
theorem tb_get (o : Ok n rs) {u : Nat} (h : u < n) : (tb o)[u]? = some (dl o u) := by simp [tb, h]
/-! ### the first table: by single roads -/
def row0 (n u : Nat) : Cs := (List.replicate n none).set u (some (0, 0))
def rowr (u : Nat) (f : Cs) (r : Rd) : Cs := if r.s = u then f.set r.e (lmin (at' f r.e) (rcost r)) else f
def rowa (u : Nat) (f : Cs) (l : List Rd) : Cs := l.foldl (rowr u) f
theorem rowr_len (u : Nat) (f : Cs) (r : Rd) : (rowr u f r).length = f.length := by unfold rowr; split <;> simp
theorem rowa_len (u : Nat) (l : List Rd) : ∀ f : Cs, (rowa u f l).length = f.length := by
  induction l with
  | nil => exact fun f => rfl
  | cons r l ih => exact fun f => (ih (rowr u f r)).trans (rowr_len u f r)
theorem row0_at {n u : Nat} (hu : u < n) (v : Nat) : at' (row0 n u) v = if u = v then some (0, 0) else none := by
  unfold row0
  rw [at_set _ _ _ _ (by simpa using hu)]
  split
  · rfl
  · unfold at'
    rw [List.getD_eq_getElem?_getD, List.getElem?_replicate]
    split <;> rfl
theorem rowa_inv (o : Ok n rs) (u : Nat) : ∀ (l : List Rd) (f : Cs), (∀ r ∈ l, r ∈ rs) → f.length = n → (∀ v, ole (ds o u v) (at' f v)) → (∀ v, ole (ds o u v) (at' (rowa u f l) v)) ∧ (∀ v, ole (at' (rowa u f l) v) (at' f v)) ∧ ∀ r ∈ l, r.s = u → ole (at' (rowa u f l) r.e) (rcost r) := by
  intro l
  induction l with
  | nil => exact fun f _ _ h => ⟨h, fun v => ole_refl _, fun r hr => nomatch hr⟩
  | cons r l ih =>
    intro f hl hf h
    have hr := hl r List.mem_cons_self
    have he := o.e r hr
    have h1 : ∀ v, ole (ds o u v) (at' (rowr u f r) v) := fun v => by
      unfold rowr
      split
      · rename_i e
        rw [at_set _ _ _ _ (by rw [hf]; exact he)]
        split
        · rename_i e2
          subst e2
          refine le_lmin (h _) ?_
          cases hc : rcost r with
          | none => exact ole_none _
          | some c => exact dst_le o.pos (.one ⟨r, hr, e, rfl, hc⟩)
        · exact h v
      · exact h v
    have h2 : ∀ v, ole (at' (rowr u f r) v) (at' f v) := fun v => by
      unfold rowr
      split
      · rw [at_set _ _ _ _ (by rw [hf]; exact he)]
        split
        · rename_i e2; subst e2; exact lmin_le_l _ _
        · exact ole_refl _
      · exact ole_refl _
    obtain ⟨a, b, c⟩ := ih (rowr u f r) (fun x hx => hl x (List.mem_cons_of_mem _ hx)) ((rowr_len u f r).trans hf) h1
    refine ⟨a, fun v => ole_trans (b v) (h2 v), fun x hx hs => ?_⟩
    rcases List.mem_cons.mp hx with rfl | hx
    · refine ole_trans (b _) ?_
      unfold rowr
      rw [if_pos hs, at_set _ _ _ _ (by rw [hf]; exact he), if_pos rfl]
      exact lmin_le_r _ _
    · exact c x hx hs
def tab0 (n : Nat) (rs : List Rd) : Tb := (List.range n).map fun u => rowa u (row0 n u) rs
theorem tab0_ok (o : Ok n rs) : FwI o 0 (tab0 n rs) := by
  have rowe : ∀ u, u < n → (tab0 n rs).getD u [] = rowa u (row0 n u) rs := fun u hu => by
    unfold tab0
    rw [List.getD_eq_getElem?_getD]
    simp [hu]
  have key : ∀ u, u < n → _ := fun u hu => rowa_inv o u rs (row0 n u) (fun _ z => z) (by simp [row0]) fun v => by
    rw [row0_at hu]
    split
    · rename_i e
      subst e
      exact (show ole (ds o _ _) (some (0, 0)) by rw [show ds o u u = some (0, 0) from dst_self o.pos u]; exact cle_refl _)
    · exact ole_none _
  refine ⟨⟨by simp [tab0], fun u hu => by rw [rowe u hu, rowa_len]; simp [row0]⟩, fun u w hu hw => ?_, fun u w c hu hw hc => ?_⟩
  · unfold tat
    rw [rowe u hu]
    exact (key u hu).1 w
  · unfold tat
    rw [rowe u hu]
    cases hc with
    | nil =>
      have := (key u hu).2.1 u
      rw [row0_at hu, if_pos rfl] at this
      exact this
    | one e =>
      obtain ⟨r, hr, e1, e2, e3⟩ := e
      have := (key u hu).2.2 r hr e1
      rw [e2, e3] at this
      exact this
    | snoc _ z _ => exact absurd z (Nat.not_lt_zero _)
end Pd
set_option Elab.async false
set_option linter.all false
set_option maxRecDepth 100000
set_option maxHeartbeats 4000000
namespace Pd
/-! ### numbers of places -/
def nD (k : Nat) : D := .int k
def oN : Option Nat → D
  | none => .non
  | some k => .int k
@[simp] theorem e_imm_n {k : Nat} : imm (nD k) = true := rfl
@[simp] theorem e_imm_on {k : Option Nat} : imm (oN k) = true := by cases k <;> rfl
@[simp] theorem e_chk_n {k : Nat} : chk (nD k) = some (nD k) := rfl
@[simp] theorem e_chk_on {k : Option Nat} : chk (oN k) = some (oN k) := chk_imm e_imm_on
@[simp] theorem e_isNon_on {k : Option Nat} : isNon (oN k) = k.isNone := by cases k <;> rfl
theorem ints_nats (l : List Nat) : intsOf (l.map nD) = some (l.map fun k : Nat => (k : Int)) := by
  induction l with
  | nil => rfl
  | cons a l ih => simp only [List.map_cons, nD, intsOf, ih]
theorem min_foldk (l : List Int) : ∀ a k : Int, (k = a ∨ k ∈ l) → k ≤ a → (∀ j ∈ l, k ≤ j) → l.foldl min a = k := by
  induction l with
  | nil => intro a k h h1 h2; rcases h with h | h; exact h.symm; cases h
  | cons b l ih =>
    intro a k h h1 h2
    rw [List.foldl_cons]
    have hb := h2 b List.mem_cons_self
    refine ih _ k ?_ (by omega) fun j hj => h2 j (List.mem_cons_of_mem _ hj)
    rcases h with h | h
    · exact .inl (by omega)
    · rcases List.mem_cons.mp h with h | h
      · exact .inl (by omega)
      · exact .inr h
theorem min_nats {l : List Nat} {k : Nat} (hk : k ∈ l) (h : ∀ j ∈ l, k ≤ j) : minS [.lst (l.map nD)] = some (.int k) := by
  show min1S [.lst (l.map nD)] = _
  cases l with
  | nil => cases hk
  | cons a l =>
    have e : (itmL (.lst ((a :: l).map nD))).bind intsOf = some ((a : Int) :: l.map fun k : Nat => (k : Int)) := ints_nats (a :: l)
    have : (k : Int) = minI ((a : Int) :: l.map fun k : Nat => (k : Int)) := by
      symm
      refine min_foldk _ _ _ ?_ (by have := h a List.mem_cons_self; omega) fun j hj => ?_
      · rcases List.mem_cons.mp hk with e | e
        · exact .inl (by rw [e])
        · exact .inr (List.mem_map.mpr ⟨k, e, rfl⟩)
      · obtain ⟨x, hx, rfl⟩ := List.mem_map.mp hj
        have := h x (List.mem_cons_of_mem _ hx)
        omega
    unfold min1S
    simp only [e]
    rw [this]
/-- no more places than there are -/
theorem nodup_le {α : Type} : ∀ (l m : List α), l.Nodup → (∀ x ∈ l, x ∈ m) → l.length ≤ m.length
  | [], _, _, _ => Nat.zero_le _
  | x :: l, m, hn, hs => by
    obtain ⟨a, b, e⟩ := List.append_of_mem (hs x List.mem_cons_self)
    obtain ⟨h1, h2⟩ := List.nodup_cons.mp hn
    have := nodup_le l (a ++ b) h2 fun y hy => by
      have := hs y (List.mem_cons_of_mem _ hy)
      rw [e] at this
      rcases List.mem_append.mp this with z | z
      · exact List.mem_append_left _ z
      · rcases List.mem_cons.mp z with z | z
        · subst z; exact absurd hy h1
        · exact List.mem_append_right _ z
    rw [e]
    simp only [List.length_append, List.length_cons] at this ⊢
    omega
theorem nodup_lt {n : Nat} {l : List Nat} (h : l.Nodup) (hl : ∀ x ∈ l, x < n) : l.length ≤ n := by
  have := nodup_le l (List.range n) h fun x hx => List.mem_range.mpr (hl x hx)
  rwa [List.length_range] at this
/-! ### the last roads of least ways -/
variable {n : Nat} {rs : List Rd}
noncomputable def lrc (o : Ok n rs) (s : Nat) (r : Rd) : Option C := oadd (ds o s r.s) (rcost r)
noncomputable def lastp (o : Ok n rs) (s v : Nat) (r : Rd) : Bool := decide (r.e = v) && ((lrc o s r).isSome && decide (lrc o s r = ds o s v))
noncomputable def lastr (o : Ok n rs) (s v : Nat) : Option Nat := rs.findIdx? (lastp o s v)
theorem lastp_iff {o : Ok n rs} {s v : Nat} {r : Rd} : lastp o s v r = true ↔ r.e = v ∧ ∃ c, lrc o s r = some c ∧ ds o s v = some c := by
  unfold lastp
  rw [Bool.and_eq_true, Bool.and_eq_true, decide_eq_true_eq, decide_eq_true_eq]
  constructor
  · rintro ⟨h1, h2, h3⟩
    obtain ⟨c, hc⟩ := Option.isSome_iff_exists.mp h2
    exact ⟨h1, c, hc, by rw [← h3, hc]⟩
  · rintro ⟨h1, c, h2, h3⟩
    exact ⟨h1, by rw [h2]; rfl, by rw [h2, h3]⟩
theorem last_none {o : Ok n rs} {s v : Nat} (h : v = s ∨ ds o s v = none) : lastr o s v = none := by
  unfold lastr
  rw [List.findIdx?_eq_none_iff]
  intro r hr
  refine Bool.eq_false_iff.mpr fun z => ?_
  obtain ⟨h1, c, h2, h3⟩ := lastp_iff.mp z
  rcases h with rfl | h
  · have e0 : ds o v v = some (0, 0) := dst_self o.pos v
    rw [e0] at h3
    cases h3
    unfold lrc at h2
    cases ha : ds o v r.s with
    | none => rw [ha, oadd_nonel] at h2; cases h2
    | some a => cases hb : rcost r with
      | none => rw [hb, oadd_none] at h2; cases h2
      | some b =>
        rw [ha, hb] at h2
        have hp := o.pos _ _ _ ⟨r, hr, rfl, rfl, hb⟩
        have hn := (dst_at o.pos ha).nn o.pos
        have e : cadd a b = (0, 0) := Option.some.inj h2
        have : a.2 + b.2 = 0 := by
          have := congrArg Prod.snd e
          exact this
        omega
  · rw [h] at h3; cases h3
theorem last_some {o : Ok n rs} {s v : Nat} (hv : v ≠ s) {c : C} (h : ds o s v = some c) : ∃ k r, lastr o s v = some k ∧ rs[k]? = some r ∧ lastp o s v r = true ∧ ∀ j r', j < k → rs[j]? = some r' → lastp o s v r' = false := by
  obtain ⟨x, a, b, h1, ⟨r, hr, e1, e2, e3⟩, h3⟩ := dst_last o.pos h hv
  have hp : lastp o s v r = true := lastp_iff.mpr ⟨e2, c, by
    unfold lrc
    have e0 : ds o s x = some a := h1
    rw [e1, e0, e3, h3]; rfl, h⟩
  cases hk : lastr o s v with
  | none =>
    unfold lastr at hk
    rw [List.findIdx?_eq_none_iff] at hk
    have := hk r hr
    rw [hp] at this
    cases this
  | some k =>
    unfold lastr at hk
    obtain ⟨hlt, g1, g2⟩ := List.findIdx?_eq_some_iff_getElem.mp hk
    refine ⟨k, rs[k], rfl, List.getElem?_eq_getElem hlt, g1, fun j r' hj hr' => ?_⟩
    obtain ⟨hl, e⟩ := List.getElem?_eq_some_iff.mp hr'
    have := g2 j hj
    rw [e] at this
    simpa using this
/-- one road back -/
theorem last_step {o : Ok n rs} {s v : Nat} {r : Rd} {c : C} (hr : r ∈ rs) (hp : lastp o s v r = true) (h : ds o s v = some c) : ∃ a b, ds o s r.s = some a ∧ rcost r = some b ∧ c = cadd a b ∧ ¬ cle c a := by
  obtain ⟨h1, c', h2, h3⟩ := lastp_iff.mp hp
  rw [h] at h3
  cases h3
  unfold lrc at h2
  cases ha : ds o s r.s with
  | none => rw [ha, oadd_nonel] at h2; cases h2
  | some a => cases hb : rcost r with
    | none => rw [hb, oadd_none] at h2; cases h2
    | some b =>
      rw [ha, hb] at h2
      have hp := o.pos _ _ _ ⟨r, hr, rfl, rfl, hb⟩
      have e : c = cadd a b := (Option.some.inj h2).symm
      exact ⟨a, b, rfl, rfl, e, by rw [e]; exact cadd_lt hp⟩
end Pd
namespace Pd
/-- a loop that may return -/
theorem forD_rt {h : D → Env → Option Env} {body : Env → SR} {Post : SR → Prop} (ds : List D) (Inv : Nat → Env → Prop) (ρ : Env) (start : Inv 0 ρ)
    (step : ∀ (i : Nat) (d : D) (ρ : Env), ds[i]? = some d → Inv i ρ → ∃ ρ1, h d ρ = some ρ1 ∧ ((∃ ρ2, body ρ1 = .nx ρ2 ∧ Inv (i + 1) ρ2) ∨ ∃ d' ρ2, body ρ1 = .rt d' ρ2 ∧ Post (.rt d' ρ2)))
    (fin : ∀ ρ, Inv ds.length ρ → Post (.nx ρ)) : Post (forD h body ds ρ) :=
  forD_ind ds Inv ρ start (fun i d ρ h1 h2 => by
    obtain ⟨ρ1, a, b⟩ := step i d ρ h1 h2
    refine ⟨ρ1, a, ?_⟩
    rcases b with ⟨ρ2, b, c⟩ | ⟨d', ρ2, b, c⟩
    · rw [b]; exact c
    · rw [b]; exact c) fin
end Pd
set_option Elab.async false
set_option linter.all false
set_option maxRecDepth 100000
set_option maxHeartbeats 4000000
namespace Pd
open PySem L2
/-! ### pairs of places, dicts by them -/
abbrev Pr := Nat × Nat
abbrev Bw := List Pr
def kp (p : Pr) : List Key := [.inl (p.1 : Int), .inl (p.2 : Int)]
def pD (p : Pr) : D := .tup [.int p.1, .int p.2]
def bD (b : Bw) : D := .dT (b.map kp) (b.map fun _ => .bl true)
@[simp] theorem e_imm_p {p : Pr} : imm (pD p) = true := rfl
@[simp] theorem e_chk_p {p : Pr} : chk (pD p) = some (pD p) := chk_imm e_imm_p
theorem kp_inj {p q : Pr} : kp p = kp q ↔ p = q := by
  constructor
  · intro h
    unfold kp at h
    injection h with h1 h2
    injection h2 with h2 _
    injection h1 with h1
    injection h2 with h2
    exact Prod.ext (by omega) (by omega)
  · rintro rfl; rfl
theorem any_kp (b : Bw) (p : Pr) : ((b.map kp).any fun j => decide (j = kp p)) = decide (p ∈ b) := by
  rw [Bool.eq_iff_iff]
  simp only [List.any_eq_true, List.mem_map, decide_eq_true_eq]
  constructor
  · rintro ⟨k, ⟨q, hq, rfl⟩, e⟩
    rw [kp_inj] at e
    rw [← e]; exact hq
  · exact fun h => ⟨kp p, ⟨p, h, rfl⟩, rfl⟩
theorem in_dT (b : Bw) (vs : List D) (p : Pr) : inD (pD p) (.dT (b.map kp) vs) = some (decide (p ∈ b)) := by
  show some ((b.map kp).any fun j => decide (j = kp p)) = _
  rw [any_kp]
theorem in_bw (b : Bw) (p : Pr) : inD (pD p) (bD b) = some (decide (p ∈ b)) := in_dT b _ p
theorem nin_bw (b : Bw) (p : Pr) : notinD (pD p) (bD b) = some (!decide (p ∈ b)) := by
  unfold notinD; rw [in_bw]; rfl
def addB (b : Bw) (p : Pr) : Bw := if p ∈ b then b else b ++ [p]
theorem rep_true (b : Bw) (k : List Key) : repV k (.bl true) (b.map kp) (b.map fun _ => D.bl true) = b.map fun _ => D.bl true := by
  induction b with
  | nil => rfl
  | cons x b ih =>
    simp only [List.map_cons, repV, ih]
    split <;> rfl
theorem set_bw (b : Bw) (p : Pr) (h : b.length < SZ) : setD (bD b) (pD p) (.bl true) = some (bD (addB b p)) := by
  show (if imm (.bl true) = true ∧ (b.map kp).length < SZ then some (D.dT (putKs (kp p) (b.map kp)) (putVs (kp p) (.bl true) (b.map kp) (b.map fun _ => .bl true))) else none) = _
  rw [if_pos ⟨rfl, by rw [List.length_map]; exact h⟩]
  unfold putKs putVs addB bD
  rw [any_kp]
  by_cases hp : p ∈ b
  · simp [hp, rep_true]
  · simp [hp]
theorem addB_len (b : Bw) (p : Pr) : (addB b p).length ≤ b.length + 1 := by
  unfold addB; split <;> simp
theorem mem_addB {b : Bw} {p q : Pr} : q ∈ addB b p ↔ q ∈ b ∨ q = p := by
  unfold addB
  split
  · rename_i h
    exact ⟨.inl, fun z => z.elim id fun e => by rw [e]; exact h⟩
  · simp
/-- what is lacking between the neighbours of a place -/
def okp (b : Bw) (place one other : Nat) : Bool := decide (one ≠ other) && (decide (one ≠ place) && (decide (other ≠ place) && (!decide ((one, other) ∈ b) && (decide ((one, place) ∈ b) && decide ((place, other) ∈ b)))))
def lackL (b : Bw) (left : List Nat) (place : Nat) : List Pr := left.flatMap fun one => (left.filter (okp b place one)).map fun o => (one, o)
theorem lackL_len (b : Bw) (left : List Nat) (place : Nat) : (lackL b left place).length ≤ left.length * left.length := by
  unfold lackL
  rw [List.length_flatMap]
  have : ∀ l : List Nat, (l.map fun one => ((left.filter (okp b place one)).map fun o => ((one, o) : Pr)).length).sum ≤ l.length * left.length := by
    intro l
    induction l with
    | nil => simp
    | cons a l ih =>
      simp only [List.map_cons, List.sum_cons, List.length_cons, List.length_map] at ih ⊢
      have h1 : (left.filter (okp b place a)).length ≤ left.length := List.length_filter_le _ _
      have e : (l.length + 1) * left.length = l.length * left.length + left.length := Nat.succ_mul _ _
      omega
  exact this left
def addAll (b : Bw) (l : List Pr) : Bw := l.foldl addB b
def bows (rs : List Rd) : Bw := (rs.filter fun r => r.l.isSome).foldl (fun b r => addB b (r.s, r.e)) []
/-- the lightest place left: the first of the least weight -/
def wts (b : Bw) (left : List Nat) : List Nat := left.map fun p => (lackL b left p).length
def minN : List Nat → Nat
  | [] => 0
  | a :: l => l.foldl min a
def lightest (b : Bw) (left : List Nat) : Nat := left.getD ((wts b left).findIdx fun w => w == minN (wts b left)) 0
def rk : Nat → Bw → List Nat → List Nat
  | 0, _, _ => []
  | k + 1, b, left => if left = [] then [] else lightest b left :: rk k (addAll b (lackL b left (lightest b left))) (left.erase (lightest b left))
end Pd
namespace Pd
open PySem L2
/-- the lightest place left, of these the least -/
structure Lt (b : Bw) (left : List Nat) (p : Nat) : Prop where
  mem : p ∈ left
  le : ∀ o ∈ left, (lackL b left p).length ≤ (lackL b left o).length
  fst : ∀ o ∈ left, (lackL b left o).length = (lackL b left p).length → p ≤ o
inductive Rk : Bw → List Nat → List Nat → Prop
  | nil (b : Bw) : Rk b [] []
  | cons {b : Bw} {left : List Nat} {p : Nat} {ord : List Nat} : Lt b left p → Rk (addAll b (lackL b left p)) (left.erase p) ord → Rk b left (p :: ord)
theorem Rk.len {b : Bw} {left ord : List Nat} (h : Rk b left ord) : ord.length = left.length := by
  induction h with
  | nil => rfl
  | cons l _ ih =>
    rw [List.length_cons, ih, List.length_erase_of_mem l.mem]
    have := List.length_pos_of_mem l.mem
    omega
theorem minN_spec (l : List Nat) (h : l ≠ []) : minN l ∈ l ∧ ∀ x ∈ l, minN l ≤ x := by
  cases l with
  | nil => exact absurd rfl h
  | cons a l =>
    have key : ∀ (l : List Nat) (a : Nat), (l.foldl min a = a ∨ l.foldl min a ∈ l) ∧ l.foldl min a ≤ a ∧ ∀ x ∈ l, l.foldl min a ≤ x := by
      intro l
      induction l with
      | nil => exact fun a => ⟨.inl rfl, Nat.le_refl _, fun _ z => nomatch z⟩
      | cons b l ih =>
        intro a
        obtain ⟨h1, h2, h3⟩ := ih (min a b)
        rw [List.foldl_cons]
        refine ⟨?_, by omega, fun x hx => ?_⟩
        · rcases h1 with h1 | h1
          · by_cases e : a ≤ b
            · exact .inl (by rw [h1]; omega)
            · exact .inr (by rw [h1, Nat.min_eq_right (by omega)]; exact List.mem_cons_self)
          · exact .inr (List.mem_cons_of_mem _ h1)
        · rcases List.mem_cons.mp hx with rfl | hx
          · omega
          · exact h3 x hx
    obtain ⟨h1, h2, h3⟩ := key l a
    refine ⟨?_, fun x hx => ?_⟩
    · rcases h1 with h1 | h1
      · show l.foldl min a ∈ a :: l
        rw [h1]; exact List.mem_cons_self
      · exact List.mem_cons_of_mem _ h1
    · rcases List.mem_cons.mp hx with rfl | hx
      · exact h2
      · exact h3 x hx
theorem fnd_nat (k : Nat) : ∀ l : List Nat, k ∈ l → ∃ j, fndI (k : Int) (l.map fun x : Nat => (x : Int)) = some j ∧ l[j]? = some k ∧ ∀ m, m < j → l[m]? ≠ some k
  | [], h => nomatch h
  | a :: l, h => by
    by_cases e : a = k
    · subst e
      exact ⟨0, by simp [fndI], rfl, fun m hm => absurd hm (Nat.not_lt_zero _)⟩
    · obtain ⟨j, h1, h2, h3⟩ := fnd_nat k l ((List.mem_cons.mp h).resolve_left (fun z => e z.symm))
      have e' : ¬ (a : Int) = (k : Int) := fun z => e (by exact_mod_cast z)
      refine ⟨j + 1, by simp [fndI, e', h1], by simpa using h2, fun m hm => ?_⟩
      cases m with
      | zero => simpa using e
      | succ m => simpa using h3 m (by omega)
theorem rem_nat (k : Nat) : ∀ l : List Nat, k ∈ l → remI (k : Int) (l.map fun x : Nat => (x : Int)) = some ((l.erase k).map fun x : Nat => (x : Int))
  | [], h => nomatch h
  | a :: l, h => by
    by_cases e : a = k
    · subst e
      simp [remI]
    · have e' : ¬ (a : Int) = (k : Int) := fun z => e (by exact_mod_cast z)
      have e2 : (a == k) = false := by simpa using e
      simp [remI, e', rem_nat k l ((List.mem_cons.mp h).resolve_left (fun z => e z.symm)), List.erase_cons, e2]
theorem addAll_len (l : List Pr) : ∀ b : Bw, (addAll b l).length ≤ b.length + l.length := by
  induction l with
  | nil => exact fun b => Nat.le_refl _
  | cons p l ih =>
    intro b
    have h1 := ih (addB b p)
    have h2 := addB_len b p
    show (addAll (addB b p) l).length ≤ _
    rw [List.length_cons]; omega
/-- by the first place of the least weight, among rising ones -/
theorem lt_of {b : Bw} {left : List Nat} (hs : left.Pairwise (· < ·)) {j p : Nat} (hp : left[j]? = some p) (hm : (wts b left)[j]? = some (minN (wts b left))) (hf : ∀ m, m < j → (wts b left)[m]? ≠ some (minN (wts b left))) : Lt b left p := by
  have hne : wts b left ≠ [] := fun e => by rw [e] at hm; cases hm
  obtain ⟨s1, s2⟩ := minN_spec _ hne
  have wj : ∀ m o, left[m]? = some o → (wts b left)[m]? = some (lackL b left o).length := fun m o h => by unfold wts; rw [List.getElem?_map, h]; rfl
  have hw : (lackL b left p).length = minN (wts b left) := Option.some.inj ((wj j p hp).symm.trans hm)
  refine ⟨List.mem_of_getElem? hp, fun o ho => ?_, fun o ho e => ?_⟩
  · rw [hw]
    exact s2 _ (List.mem_map.mpr ⟨o, ho, rfl⟩)
  · obtain ⟨m, hm2⟩ := List.getElem?_of_mem ho
    have h1 : ¬ m < j := fun z => hf m z (by rw [wj m o hm2, e, hw])
    by_cases e2 : m = j
    · subst e2
      rw [hp] at hm2
      cases hm2
      exact Nat.le_refl _
    · obtain ⟨h2, h3⟩ := List.getElem?_eq_some_iff.mp hp
      obtain ⟨h4, h5⟩ := List.getElem?_eq_some_iff.mp hm2
      have := List.pairwise_iff_getElem.mp hs j m h2 h4 (by omega)
      rw [h3, h5] at this
      exact Nat.le_of_lt this
end Pd
set_option Elab.async false
set_option linter.all false
set_option maxRecDepth 100000
set_option maxHeartbeats 4000000
namespace Pd
/-! ### arcs: the least ways over places below both ends -/
section
variable {E : Nat → Nat → C → Prop} {S S' S1 S2 : Nat → Prop} {u v w m k : Nat} {a b c d : C} {o o' p q : Option C}
theorem Wk.app (h1 : Wk E S u m c) (hm : S m) (i1 : Wk E S m w d) : Wk E S u w (cadd c d) := by
  induction i1 with
  | nil => rw [cadd_z]; exact h1
  | one e => exact .snoc h1 hm e
  | snoc h s e ih => rw [← cadd_assoc]; exact .snoc ih s e
structure Lw (E : Nat → Nat → C → Prop) (S : Nat → Prop) (u w : Nat) (o : Option C) : Prop where
  le : ∀ c, Wk E S u w c → ole o (some c)
  at_ : ∀ c, o = some c → Wk E S u w c
theorem Lw.uniq (h : Lw E S u w o) (k : Lw E S u w o') : o = o' := by
  refine ole_anti ?_ ?_
  · cases o' with
    | none => exact ole_none _
    | some c => exact h.le c (k.at_ c rfl)
  · cases o with
    | none => exact ole_none _
    | some c => exact k.le c (h.at_ c rfl)
theorem Lw.congr (h : Lw E S u w o) (hs : ∀ x, S x ↔ S' x) : Lw E S' u w o :=
  ⟨fun c z => h.le c (z.mono fun x y => (hs x).mpr y), fun c z => (h.at_ c z).mono fun x y => (hs x).mp y⟩
theorem lmin_some {a b : Option C} {c : C} (h : lmin a b = some c) : a = some c ∨ b = some c := by
  rcases lmin_or a b with ⟨e, _⟩ | ⟨e, _⟩ <;> rw [e] at h
  · exact .inl h
  · exact .inr h
theorem oadd_some {a b : Option C} {c : C} (h : oadd a b = some c) : ∃ x y, a = some x ∧ b = some y ∧ c = cadd x y := by
  cases a with
  | none => cases h
  | some x => cases b with
    | none => cases h
    | some y => exact ⟨x, y, rfl, rfl, (Option.some.inj h).symm⟩
/-- one more place between -/
theorem Lw.step (P : Pos E) (hS : ∀ x, S' x ↔ S x ∨ x = m) (h : Lw E S u w o) (h1 : Lw E S u m p) (h2 : Lw E S m w q) : Lw E S' u w (lmin o (oadd p q)) where
  le := fun c z => by
    rcases Wk.split P (fun x y => (hS x).mp y) z with z | ⟨c1, c2, z1, z2, hc⟩
    · exact ole_trans (lmin_le_l _ _) (h.le c z)
    · exact ole_trans (lmin_le_r _ _) (ole_trans (oadd_mono (h1.le c1 z1) (h2.le c2 z2)) hc)
  at_ := fun c z => by
    have up : ∀ x, S x → S' x := fun x y => (hS x).mpr (.inl y)
    rcases lmin_some z with z | z
    · exact (h.at_ c z).mono up
    · obtain ⟨x, y, e1, e2, rfl⟩ := oadd_some z
      exact ((h1.at_ x e1).mono up).app ((hS m).mpr (.inr rfl)) ((h2.at_ y e2).mono up)
/-- roads from the start or from some places -/
def Er (E : Nat → Nat → C → Prop) (S : Nat → Prop) (u : Nat) : Nat → Nat → C → Prop := fun x y c => E x y c ∧ (x = u ∨ S x)
theorem Pos.er (P : Pos E) : Pos (Er E S u) := fun x y c h => P x y c h.1
theorem Wk.er (h : Wk E S u w c) : Way (Er E S u) u w c := by
  induction h with
  | nil => exact .nil _
  | one e => exact Way.one ⟨e, .inl rfl⟩
  | snoc _ s e ih => exact .snoc ih ⟨e, .inr s⟩
theorem Way.wk_le (P : Pos E) (h : Way (Er E S u) u w c) : ∃ d, Wk E S u w d ∧ cle d c := by
  induction h with
  | nil => exact ⟨_, .nil _, cle_refl _⟩
  | @snoc v w c d h e ih =>
    rcases e.2 with z | z
    · subst z
      refine ⟨d, .one e.1, ?_⟩
      have := h.nn P.er
      unfold cle cadd; simp only; omega
    · obtain ⟨c', h1, h2⟩ := ih
      exact ⟨_, .snoc h1 z e.1, cadd_mono h2 (cle_refl _)⟩
theorem lw_er (P : Pos E) : Lw E S u w (dst (P.er (S := S) (u := u)) u w) where
  le := fun c h => dst_le _ h.er
  at_ := fun c h => by
    obtain ⟨d, h1, h2⟩ := (dst_at _ h).wk_le P
    have h3 := dst_le (P.er (S := S) (u := u)) h1.er
    rw [h] at h3
    rw [cle_anti h3 h2]
    exact h1
/-- what may lie between: below both -/
def bel (r : Nat → Nat) (u w x : Nat) : Prop := r x < r u ∧ r x < r w
/-- what an arc costs -/
noncomputable def acO (P : Pos E) (r : Nat → Nat) (u w : Nat) : Option C := dst (P.er (S := bel r u w) (u := u)) u w
theorem acO_lw (P : Pos E) (r : Nat → Nat) (u w : Nat) : Lw E (bel r u w) u w (acO P r u w) := lw_er P
def belk (r : Nat → Nat) (k u w x : Nat) : Prop := r x < k ∧ r x < r u ∧ r x < r w
/-- the table is right for places between below the k-th -/
def TI (E : Nat → Nat → C → Prop) (r : Nat → Nat) (n k : Nat) (f : Nat → Nat → Option C) : Prop := ∀ u w, u < n → w < n → u ≠ w → Lw E (belk r k u w) u w (f u w)
theorem TI.step (P : Pos E) {r : Nat → Nat} {n : Nat} (inj : ∀ x y, r x = r y → x = y) {f g : Nat → Nat → Option C} (h : TI E r n k f) (hm : m < n) (hk : r m = k)
    (h1 : ∀ u w, u < n → w < n → u ≠ w → k < r u → k < r w → g u w = lmin (f u w) (oadd (f u m) (f m w))) (h2 : ∀ u w, u < n → w < n → u ≠ w → ¬ (k < r u ∧ k < r w) → g u w = f u w) : TI E r n (k + 1) g := fun u w hu hw hne => by
  by_cases hc : k < r u ∧ k < r w
  · rw [h1 u w hu hw hne hc.1 hc.2]
    have um : u ≠ m := fun e => by rw [e] at hc; omega
    have wm : w ≠ m := fun e => by rw [e] at hc; omega
    refine Lw.step (S := fun x => r x < k) P (fun x => ?_) ((h u w hu hw hne).congr fun x => ?_) ((h u m hu hm um).congr fun x => ?_) ((h m w hm hw (Ne.symm wm)).congr fun x => ?_)
    · show r x < k + 1 ∧ r x < r u ∧ r x < r w ↔ r x < k ∨ x = m
      constructor
      · intro z
        by_cases e : r x = k
        · exact .inr (inj _ _ (e.trans hk.symm))
        · exact .inl (by omega)
      · rintro (z | rfl)
        · omega
        · omega
    · show r x < k ∧ r x < r u ∧ r x < r w ↔ r x < k
      omega
    · show r x < k ∧ r x < r u ∧ r x < r m ↔ r x < k
      omega
    · show r x < k ∧ r x < r m ∧ r x < r w ↔ r x < k
      omega
  · rw [h2 u w hu hw hne hc]
    refine (h u w hu hw hne).congr fun x => ?_
    show r x < k ∧ r x < r u ∧ r x < r w ↔ r x < k + 1 ∧ r x < r u ∧ r x < r w
    omega
theorem TI.acO (P : Pos E) {r : Nat → Nat} {n : Nat} {f : Nat → Nat → Option C} (h : TI E r n n f) (hr : ∀ x, x < n → r x < n) {u w : Nat} (hu : u < n) (hw : w < n) (hne : u ≠ w) : f u w = acO P r u w :=
  ((h u w hu hw hne).congr fun x => by
    have := hr u hu
    show r x < n ∧ r x < r u ∧ r x < r w ↔ r x < r u ∧ r x < r w
    omega).uniq (acO_lw P r u w)
/-- no place between at all: roads alone -/
theorem Wk.none_ (h : Wk E (fun _ => False) u w c) (hne : u ≠ w) : E u w c := by
  cases h with
  | nil => exact absurd rfl hne
  | one e => exact e
  | snoc _ s _ => exact s.elim
theorem TI.zero {r : Nat → Nat} {n : Nat} {f : Nat → Nat → Option C} (h1 : ∀ u w c, u < n → w < n → u ≠ w → E u w c → ole (f u w) (some c)) (h2 : ∀ u w c, u < n → w < n → u ≠ w → f u w = some c → E u w c) : TI E r n 0 f := fun u w hu hw hne =>
  ⟨fun c z => h1 u w c hu hw hne ((z.mono (S' := fun _ => False) fun x y => absurd y.1 (by omega)).none_ hne), fun c z => .one (h2 u w c hu hw hne z)⟩
end
/-! ### kept arcs, and climbing -/
section
variable {E : Nat → Nat → C → Prop} {u v w m k s t x : Nat} {a b c d : C}
theorem Wk.dst_le (P : Pos E) {S : Nat → Prop} (h : Wk E S u w c) : ole (dst P u w) (some c) := Pd.dst_le P h.way
theorem acO_ge (P : Pos E) (r : Nat → Nat) (u w : Nat) : ole (dst P u w) (acO P r u w) := by
  cases h : acO P r u w with
  | none => exact ole_none _
  | some c => exact ((acO_lw P r u w).at_ c h).dst_le P
/-- an arc that is kept -/
def Kp (P : Pos E) (r : Nat → Nat) (u w : Nat) (c : C) : Prop := u ≠ w ∧ acO P r u w = some c ∧ dst P u w = some c
theorem Kp.of (P : Pos E) {r : Nat → Nat} (hne : u ≠ w) (h : Wk E (bel r u w) u w c) (hc : dst P u w = some c) : Kp P r u w c := by
  refine ⟨hne, ?_, hc⟩
  have h1 := (acO_lw P r u w).le c h
  have h2 := acO_ge P r u w
  rw [hc] at h2
  exact ole_anti h1 h2
theorem Kp.pos (P : Pos E) {r : Nat → Nat} (h : Kp P r u w c) : 0 ≤ c.1 ∧ 1 ≤ c.2 := by
  obtain ⟨x, a, b, _, e, rfl⟩ := dst_last P h.2.2 (Ne.symm h.1)
  have h1 := P _ _ _ e
  have h2 := (Pd.dst_at P (by assumption : dst P u x = some a)).nn P
  unfold cadd; simp only; omega
/-- up: from lower to higher, by kept arcs; down: likewise, seen from the goal -/
def Ku (P : Pos E) (r : Nat → Nat) (u w : Nat) (c : C) : Prop := Kp P r u w c ∧ r u < r w
def Kd' (P : Pos E) (r : Nat → Nat) (w u : Nat) (c : C) : Prop := Kp P r u w c ∧ r w < r u
theorem Ku.pos (P : Pos E) {r : Nat → Nat} : Pos (Ku P r) := fun u v c h => h.1.pos P
theorem Kd'.pos (P : Pos E) {r : Nat → Nat} : Pos (Kd' P r) := fun u v c h => h.1.pos P
/-- sub-ways of a least way are least -/
theorem dst_parts (P : Pos E) (h1 : Way E u m c) (h2 : Way E m w d) (h : ole (some (cadd c d)) (dst P u w)) : dst P u m = some c ∧ dst P m w = some d := by
  obtain ⟨c', e1, l1⟩ := ole_some (Pd.dst_le P h1)
  obtain ⟨d', e2, l2⟩ := ole_some (Pd.dst_le P h2)
  have h3 := Pd.dst_le P ((Pd.dst_at P e1).app (Pd.dst_at P e2))
  have h4 : cle (cadd c d) (cadd c' d') := ole_trans h h3
  have : c' = c ∧ d' = d := by
    obtain ⟨x1, x2⟩ := c
    obtain ⟨y1, y2⟩ := d
    obtain ⟨z1, z2⟩ := c'
    obtain ⟨t1, t2⟩ := d'
    simp only [cle, cadd] at *
    constructor <;> (apply Prod.ext <;> simp only <;> omega)
  rw [e1, e2, this.1, this.2]
  exact ⟨rfl, rfl⟩
theorem cle_of_parts (P : Pos E) {S : Nat → Prop} {c1 c2 : C} (h1 : Wk E S u m c1) (h2 : Wk E S m w c2) (h3 : cle (cadd c1 c2) c) (hc : dst P u w = some c) : dst P u m = some c1 ∧ dst P m w = some c2 ∧ cadd c1 c2 = c := by
  have h4 := Pd.dst_le P (h1.way.app h2.way)
  rw [hc] at h4
  have e := cle_anti h3 h4
  have := dst_parts P h1.way h2.way (by rw [e, hc]; exact cle_refl _)
  exact ⟨this.1, this.2, e⟩
variable {r : Nat → Nat}
theorem upW (P : Pos E) (inj : ∀ x y, r x = r y → x = y) : ∀ (k : Nat) (s x : Nat) (c : C), r s < r x → k ≤ r x → Wk E (fun y => r y < k) s x c → dst P s x = some c → Way (Ku P r) s x c := by
  intro k
  induction k with
  | zero =>
    intro s x c h1 h2 h3 h4
    have hne : s ≠ x := fun e => by rw [e] at h1; omega
    exact Way.one ⟨Kp.of P hne (h3.mono fun y hy => absurd hy (by omega)) h4, h1⟩
  | succ k ih =>
    intro s x c h1 h2 h3 h4
    have hne : s ≠ x := fun e => by rw [e] at h1; omega
    by_cases hs : k < r s
    · exact Way.one ⟨Kp.of P hne (h3.mono fun y hy => ⟨by omega, by omega⟩) h4, h1⟩
    · by_cases hm : ∃ m, r m = k
      · obtain ⟨m, hm⟩ := hm
        rcases Wk.split (S := fun y => r y < k) (k := m) P (fun y hy => by
          by_cases e : r y = k
          · exact .inr (inj _ _ (e.trans hm.symm))
          · exact .inl (by omega)) h3 with z | ⟨c1, c2, z1, z2, z3⟩
        · exact ih s x c h1 (by omega) z h4
        · obtain ⟨e1, e2, rfl⟩ := cle_of_parts P z1 z2 z3 h4
          have last : Ku P r m x c2 := ⟨Kp.of P (fun e => by rw [e] at hm; omega) (z2.mono fun y hy => ⟨by omega, by omega⟩) e2, by omega⟩
          by_cases es : r s = k
          · have : s = m := inj _ _ (es.trans hm.symm)
            subst this
            rw [dst_self] at e1
            cases e1
            rw [cadd_zl]
            exact Way.one last
          · exact .snoc (ih s m c1 (by omega) (by omega) z1 e1) last
      · exact ih s x c h1 (by omega) (h3.mono fun y hy => by
          have : r y ≠ k := fun e => hm ⟨y, e⟩
          omega) h4
theorem dnW (P : Pos E) (inj : ∀ x y, r x = r y → x = y) : ∀ (k : Nat) (x t : Nat) (c : C), r t < r x → k ≤ r x → Wk E (fun y => r y < k) x t c → dst P x t = some c → Way (Kd' P r) t x c := by
  intro k
  induction k with
  | zero =>
    intro x t c h1 h2 h3 h4
    have hne : x ≠ t := fun e => by rw [e] at h1; omega
    exact Way.one ⟨Kp.of P hne (h3.mono fun y hy => absurd hy (by omega)) h4, h1⟩
  | succ k ih =>
    intro x t c h1 h2 h3 h4
    have hne : x ≠ t := fun e => by rw [e] at h1; omega
    by_cases hs : k < r t
    · exact Way.one ⟨Kp.of P hne (h3.mono fun y hy => ⟨by omega, by omega⟩) h4, h1⟩
    · by_cases hm : ∃ m, r m = k
      · obtain ⟨m, hm⟩ := hm
        rcases Wk.split (S := fun y => r y < k) (k := m) P (fun y hy => by
          by_cases e : r y = k
          · exact .inr (inj _ _ (e.trans hm.symm))
          · exact .inl (by omega)) h3 with z | ⟨c1, c2, z1, z2, z3⟩
        · exact ih x t c h1 (by omega) z h4
        · obtain ⟨e1, e2, rfl⟩ := cle_of_parts P z1 z2 z3 h4
          have first : Kd' P r m x c1 := ⟨Kp.of P (fun e => by rw [← e] at hm; omega) (z1.mono fun y hy => ⟨by omega, by omega⟩) e1, by omega⟩
          by_cases es : r t = k
          · have : t = m := inj _ _ (es.trans hm.symm)
            subst this
            rw [dst_self] at e2
            cases e2
            rw [cadd_z]
            exact Way.one first
          · rw [cadd_comm]
            exact .snoc (ih m t c2 (by omega) (by omega) z2 e2) first
      · exact ih x t c h1 (by omega) (h3.mono fun y hy => by
          have : r y ≠ k := fun e => hm ⟨y, e⟩
          omega) h4
/-- a cheapest way climbs and comes down -/
theorem topW (P : Pos E) (inj : ∀ x y, r x = r y → x = y) : ∀ (k : Nat) (s t : Nat) (c : C), Wk E (fun y => r y < k) s t c → dst P s t = some c → ∃ x c1 c2, Way (Ku P r) s x c1 ∧ Way (Kd' P r) t x c2 ∧ c = cadd c1 c2 := by
  intro k
  induction k with
  | zero =>
    intro s t c h3 h4
    by_cases e : s = t
    · subst e
      rw [dst_self] at h4
      cases h4
      exact ⟨s, _, _, .nil _, .nil _, (cadd_z _).symm⟩
    · have e' : r s ≠ r t := fun z => e (inj _ _ z)
      rcases Nat.lt_or_gt_of_ne e' with z | z
      · exact ⟨t, c, _, upW P inj 0 s t c z (by omega) h3 h4, .nil _, (cadd_z _).symm⟩
      · exact ⟨s, _, c, .nil _, dnW P inj 0 s t c z (by omega) h3 h4, (cadd_zl _).symm⟩
  | succ k ih =>
    intro s t c h3 h4
    by_cases e : s = t
    · subst e
      rw [dst_self] at h4
      cases h4
      exact ⟨s, _, _, .nil _, .nil _, (cadd_z _).symm⟩
    have e' : r s ≠ r t := fun z => e (inj _ _ z)
    by_cases hs : k < r s ∨ k < r t
    · rcases Nat.lt_or_gt_of_ne e' with z | z
      · exact ⟨t, c, _, upW P inj (k + 1) s t c z (by omega) h3 h4, .nil _, (cadd_z _).symm⟩
      · exact ⟨s, _, c, .nil _, dnW P inj (k + 1) s t c z (by omega) h3 h4, (cadd_zl _).symm⟩
    · by_cases hm : ∃ m, r m = k
      · obtain ⟨m, hm⟩ := hm
        rcases Wk.split (S := fun y => r y < k) (k := m) P (fun y hy => by
          by_cases e : r y = k
          · exact .inr (inj _ _ (e.trans hm.symm))
          · exact .inl (by omega)) h3 with z | ⟨c1, c2, z1, z2, z3⟩
        · exact ih s t c z h4
        · obtain ⟨e1, e2, rfl⟩ := cle_of_parts P z1 z2 z3 h4
          have A : Way (Ku P r) s m c1 := by
            by_cases es : r s = k
            · have : s = m := inj _ _ (es.trans hm.symm)
              subst this
              rw [dst_self] at e1
              cases e1
              exact .nil _
            · exact upW P inj k s m c1 (by omega) (by omega) z1 e1
          have B : Way (Kd' P r) t m c2 := by
            by_cases es : r t = k
            · have : t = m := inj _ _ (es.trans hm.symm)
              subst this
              rw [dst_self] at e2
              cases e2
              exact .nil _
            · exact dnW P inj k m t c2 (by omega) (by omega) z2 e2
          exact ⟨m, c1, c2, A, B, rfl⟩
      · exact ih s t c (h3.mono fun y hy => by
          have : r y ≠ k := fun e => hm ⟨y, e⟩
          omega) h4
theorem Ku.way (P : Pos E) (h : Way (Ku P r) u w c) : Way E u w c := by
  induction h with
  | nil => exact .nil _
  | snoc _ e ih => exact ih.app (dst_at P e.1.2.2)
theorem Kd'.way (P : Pos E) (h : Way (Kd' P r) w u c) : Way E u w c := by
  induction h with
  | nil => exact .nil _
  | snoc _ e ih => rw [cadd_comm]; exact (dst_at P e.1.2.2).app ih
theorem Ku.rank (P : Pos E) (h : Way (Ku P r) u w c) : r u ≤ r w := by
  induction h with
  | nil => exact Nat.le_refl _
  | snoc _ e ih => have := e.2; omega
theorem Kd'.rank (P : Pos E) (h : Way (Kd' P r) w u c) : r w ≤ r u := by
  induction h with
  | nil => exact Nat.le_refl _
  | snoc _ e ih => have := e.2; omega
noncomputable def upd' (P : Pos E) (r : Nat → Nat) (s x : Nat) : Option C := dst (Ku.pos P (r := r)) s x
noncomputable def dnd (P : Pos E) (r : Nat → Nat) (t x : Nat) : Option C := dst (Kd'.pos P (r := r)) t x
theorem up_ge (P : Pos E) (s x : Nat) : ole (dst P s x) (upd' P r s x) := by
  cases h : upd' P r s x with
  | none => exact ole_none _
  | some c => exact dst_le P (Ku.way P (dst_at _ h))
theorem dn_ge (P : Pos E) (t x : Nat) : ole (dst P x t) (dnd P r t x) := by
  cases h : dnd P r t x with
  | none => exact ole_none _
  | some c => exact dst_le P (Kd'.way P (dst_at _ h))
/-- THE THEOREM: the least sum over the tops is the cost -/
theorem meet_le (P : Pos E) (s t x : Nat) : ole (dst P s t) (oadd (upd' P r s x) (dnd P r t x)) :=
  ole_trans (dst_tri P s x t) (oadd_mono (up_ge P s x) (dn_ge P t x))
theorem meet_at (P : Pos E) (inj : ∀ x y, r x = r y → x = y) {n : Nat} (hn : ∀ x y c, E x y c → r x < n) {s t : Nat} {c : C} (h : dst P s t = some c) : ∃ x, oadd (upd' P r s x) (dnd P r t x) = some c := by
  obtain ⟨x, c1, c2, h1, h2, rfl⟩ := topW P inj n s t c ((dst_at P h).wk hn) h
  refine ⟨x, ole_anti ?_ ?_⟩
  · exact oadd_mono (dst_le (Ku.pos P) h1) (dst_le (Kd'.pos P) h2)
  · rw [← h]; exact meet_le P s t x
end
end Pd
set_option Elab.async false
set_option linter.all false
set_option maxRecDepth 100000
set_option maxHeartbeats 4000000
namespace Pd
open PySem L2
/-! ### lists of pairs, read as dicts -/
section
variable {α : Type} [DecidableEq α] {β : Type} {l : List (α × β)} {k j : α} {v y : β}
def alG : List (α × β) → α → Option β
  | [], _ => none
  | x :: l, k => if x.1 = k then some x.2 else alG l k
def alR (k : α) (y : β) : List (α × β) → List (α × β)
  | [] => []
  | x :: l => (x.1, if x.1 = k then y else x.2) :: alR k y l
def alK (l : List (α × β)) : List α := l.map fun x => x.1
def alP (l : List (α × β)) (k : α) (y : β) : List (α × β) := if (alG l k).isSome = true then alR k y l else l ++ [(k, y)]
theorem alG_isSome (l : List (α × β)) (k : α) : (alG l k).isSome = true ↔ k ∈ alK l := by
  induction l with
  | nil => simp [alG, alK]
  | cons x l ih =>
    unfold alG alK
    by_cases e : x.1 = k
    · simp [e]
    · simp only [e, if_false, ih, List.map_cons, List.mem_cons]
      exact ⟨.inr, fun z => z.elim (fun z => absurd z.symm e) id⟩
theorem alG_none (l : List (α × β)) (k : α) : alG l k = none ↔ k ∉ alK l := by
  rw [← alG_isSome]
  cases alG l k <;> simp
theorem alG_mem (h : alG l k = some v) : (k, v) ∈ l := by
  induction l with
  | nil => cases h
  | cons x l ih =>
    unfold alG at h
    by_cases e : x.1 = k
    · rw [if_pos e] at h
      cases h
      rw [← e]; exact List.mem_cons_self
    · rw [if_neg e] at h
      exact List.mem_cons_of_mem _ (ih h)
theorem alG_of (hn : (alK l).Nodup) (h : (k, v) ∈ l) : alG l k = some v := by
  induction l with
  | nil => cases h
  | cons x l ih =>
    obtain ⟨h1, h2⟩ := List.nodup_cons.mp hn
    unfold alG
    rcases List.mem_cons.mp h with rfl | h
    · simp
    · have : ¬ x.1 = k := fun e => h1 (List.mem_map.mpr ⟨(k, v), h, e.symm⟩)
      rw [if_neg this]
      exact ih h2 h
theorem alR_keys (k : α) (y : β) (l : List (α × β)) : alK (alR k y l) = alK l := by
  induction l with
  | nil => rfl
  | cons x l ih => unfold alR; unfold alK at ih ⊢; rw [List.map_cons, List.map_cons, ih]
theorem alG_R (k : α) (y : β) (l : List (α × β)) (j : α) : alG (alR k y l) j = if k = j then (alG l k).map fun _ => y else alG l j := by
  induction l with
  | nil => simp [alR, alG]
  | cons x l ih =>
    unfold alR alG
    by_cases e : x.1 = j
    · subst e
      by_cases e2 : k = x.1
      · subst e2; simp
      · have e3 : ¬ x.1 = k := fun z => e2 z.symm
        simp [e2, e3]
    · simp only [e, if_false, ih]
      by_cases e2 : k = j
      · subst e2
        simp [e]
      · simp [e2]
theorem alG_app (l m : List (α × β)) (k : α) : alG (l ++ m) k = (alG l k).or (alG m k) := by
  induction l with
  | nil => simp [alG]
  | cons x l ih =>
    show (if x.1 = k then some x.2 else alG (l ++ m) k) = (if x.1 = k then some x.2 else alG l k).or (alG m k)
    split
    · rfl
    · exact ih
theorem alG_put (l : List (α × β)) (k : α) (y : β) (j : α) : alG (alP l k y) j = if k = j then some y else alG l j := by
  unfold alP
  cases h : alG l k with
  | some v =>
    rw [if_pos (by rfl), alG_R]
    split
    · rw [h]; rfl
    · rfl
  | none =>
    rw [if_neg (by simp), alG_app]
    by_cases e : k = j
    · subst e
      rw [h]; simp [alG]
    · simp [alG, e]
theorem alK_put (l : List (α × β)) (k : α) (y : β) : alK (alP l k y) = if k ∈ alK l then alK l else alK l ++ [k] := by
  unfold alP
  by_cases h : k ∈ alK l
  · rw [if_pos h, if_pos ((alG_isSome l k).mpr h), alR_keys]
  · rw [if_neg h, if_neg (fun z => h ((alG_isSome l k).mp z))]
    simp [alK]
theorem alP_nodup (h : (alK l).Nodup) : (alK (alP l k y)).Nodup := by
  rw [alK_put]
  split
  · exact h
  · rename_i z
    rw [List.nodup_append]
    exact ⟨h, by simp, fun a ha b hb => by
      rw [List.mem_singleton] at hb
      rw [hb]
      exact fun e => z (by rw [← e]; exact ha)⟩
theorem alP_mem {x : α} (h : x ∈ alK (alP l k y)) : x ∈ alK l ∨ x = k := by
  rw [alK_put] at h
  split at h
  · exact .inl h
  · simpa using h
/-- the same gets: the same length -/
theorem al_len {l m : List (α × β)} (h1 : (alK l).Nodup) (h2 : (alK m).Nodup) (h : ∀ k, alG l k = alG m k) : l.length = m.length := by
  have e : ∀ k, k ∈ alK l ↔ k ∈ alK m := fun k => by rw [← alG_isSome, ← alG_isSome, h]
  have a := nodup_le _ _ h1 fun x hx => (e x).mp hx
  have b := nodup_le _ _ h2 fun x hx => (e x).mpr hx
  unfold alK at a b
  rw [List.length_map, List.length_map] at a b
  omega
variable {κ : Type} [DecidableEq κ]
theorem look_al (kf : α → κ) (inj : ∀ a b, kf a = kf b → a = b) (em : β → D) (l : List (α × β)) (k : α) : lookK (kf k) (l.map fun x => kf x.1) (l.map fun x => em x.2) = (alG l k).map em := by
  induction l with
  | nil => rfl
  | cons x l ih =>
    simp only [List.map_cons, lookK, alG, ih]
    by_cases e : x.1 = k
    · simp [e]
    · have : ¬ kf x.1 = kf k := fun z => e (inj _ _ z)
      simp [e, this]
theorem any_al (kf : α → κ) (inj : ∀ a b, kf a = kf b → a = b) (l : List (α × β)) (k : α) : ((l.map fun x => kf x.1).any fun j => decide (j = kf k)) = (alG l k).isSome := by
  rw [Bool.eq_iff_iff, alG_isSome]
  simp only [List.any_eq_true, List.mem_map, decide_eq_true_eq]
  constructor
  · rintro ⟨_, ⟨q, hq, rfl⟩, e⟩
    exact List.mem_map.mpr ⟨q, hq, inj _ _ e⟩
  · intro h
    obtain ⟨q, hq, e⟩ := List.mem_map.mp h
    exact ⟨_, ⟨q, hq, rfl⟩, by rw [e]⟩
theorem repV_al (kf : α → κ) (inj : ∀ a b, kf a = kf b → a = b) (em : β → D) (l : List (α × β)) (k : α) (y : β) : repV (kf k) (em y) (l.map fun x => kf x.1) (l.map fun x => em x.2) = (alR k y l).map fun x => em x.2 := by
  induction l with
  | nil => rfl
  | cons x l ih =>
    simp only [List.map_cons, repV, alR, ih]
    by_cases e : x.1 = k
    · simp [e]
    · have : ¬ kf x.1 = kf k := fun z => e (inj _ _ z)
      simp [e, this]
theorem alR_kf (kf : α → κ) (l : List (α × β)) (k : α) (y : β) : (alR k y l).map (fun x => kf x.1) = l.map fun x => kf x.1 := by
  induction l with
  | nil => rfl
  | cons x l ih => simp only [List.map_cons, alR, ih]
theorem putKs_al (kf : α → κ) (inj : ∀ a b, kf a = kf b → a = b) (l : List (α × β)) (k : α) (y : β) : putKs (kf k) (l.map fun x => kf x.1) = (alP l k y).map fun x => kf x.1 := by
  unfold putKs alP
  rw [any_al kf inj]
  split
  · rw [alR_kf]
  · simp
theorem putVs_al (kf : α → κ) (inj : ∀ a b, kf a = kf b → a = b) (em : β → D) (l : List (α × β)) (k : α) (y : β) : putVs (kf k) (em y) (l.map fun x => kf x.1) (l.map fun x => em x.2) = (alP l k y).map fun x => em x.2 := by
  unfold putVs alP
  rw [any_al kf inj]
  split
  · rw [repV_al kf inj]
  · simp
theorem rows_al [DecidableEq β] (kf : α → κ) (inj : ∀ a b, kf a = kf b → a = b) (em : β → D) (he : ∀ a b, PyData.eqv (toP (em a)) (toP (em b)) = decide (a = b)) (m : List (α × β)) (l : List (α × β)) : rowsEq (m.map fun x => kf x.1) (m.map fun x => em x.2) (l.map fun x => kf x.1) (l.map fun x => em x.2) = l.all fun x => decide (alG m x.1 = some x.2) := by
  induction l with
  | nil => rfl
  | cons x l ih =>
    simp only [List.map_cons, rowsEq, look_al kf inj, List.all_cons, ih]
    congr 1
    cases alG m x.1 with
    | none => simp
    | some u =>
      simp only [Option.map_some, he, Option.some.injEq]
      exact decide_eq_decide.mpr ⟨Eq.symm, Eq.symm⟩
end
/-! ### dicts by pairs of places and by places -/
section
variable {β : Type} {em : β → D}
def pA (em : β → D) (l : List (Pr × β)) : D := .dT (l.map fun x => kp x.1) (l.map fun x => em x.2)
def nk (n : Nat) : Key := .inl (n : Int)
def nA (em : β → D) (l : List (Nat × β)) : D := .dK (l.map fun x => nk x.1) (l.map fun x => em x.2)
theorem kp_in (a b : Pr) (h : kp a = kp b) : a = b := kp_inj.mp h
theorem nk_in (a b : Nat) (h : nk a = nk b) : a = b := by
  unfold nk at h
  injection h with h
  omega
theorem in_pA (l : List (Pr × β)) (p : Pr) : inD (pD p) (pA em l) = some (alG l p).isSome := by
  show some ((l.map fun x => kp x.1).any fun j => decide (j = kp p)) = _
  rw [any_al kp kp_in]
theorem nin_pA (l : List (Pr × β)) (p : Pr) : notinD (pD p) (pA em l) = some (!(alG l p).isSome) := by
  unfold notinD; rw [in_pA]; rfl
theorem ix_pA (l : List (Pr × β)) (p : Pr) : ixD (pA em l) (pD p) = (alG l p).map em := by
  show lookK (kp p) (l.map fun x => kp x.1) (l.map fun x => em x.2) = _
  rw [look_al kp kp_in]
theorem get_pA (l : List (Pr × β)) (p : Pr) : getN (pA em l) (pD p) = some (((alG l p).map em).getD .non) := by
  show some ((lookK (kp p) (l.map fun x => kp x.1) (l.map fun x => em x.2)).getD .non) = _
  rw [look_al kp kp_in]
theorem set_pA (l : List (Pr × β)) (p : Pr) (y : β) (h : l.length < SZ) (hy : imm (em y) = true) : setD (pA em l) (pD p) (em y) = some (pA em (alP l p y)) := by
  show (if imm (em y) = true ∧ (l.map fun x => kp x.1).length < SZ then some (D.dT (putKs (kp p) (l.map fun x => kp x.1)) (putVs (kp p) (em y) (l.map fun x => kp x.1) (l.map fun x => em x.2))) else none) = _
  rw [if_pos ⟨hy, by rw [List.length_map]; exact h⟩, putKs_al kp kp_in l p y, putVs_al kp kp_in]
  rfl
theorem in_nA (l : List (Nat × β)) (p : Nat) : inD (.int p) (nA em l) = some (alG l p).isSome := by
  show some ((l.map fun x => nk x.1).any fun j => decide (j = nk p)) = _
  rw [any_al nk nk_in]
theorem nin_nA (l : List (Nat × β)) (p : Nat) : notinD (.int p) (nA em l) = some (!(alG l p).isSome) := by
  unfold notinD; rw [in_nA]; rfl
theorem ix_nA (l : List (Nat × β)) (p : Nat) : ixD (nA em l) (.int p) = (alG l p).map em := by
  show lookK (nk p) (l.map fun x => nk x.1) (l.map fun x => em x.2) = _
  rw [look_al nk nk_in]
theorem get_nA (l : List (Nat × β)) (p : Nat) : getN (nA em l) (.int p) = some (((alG l p).map em).getD .non) := by
  show some ((lookK (nk p) (l.map fun x => nk x.1) (l.map fun x => em x.2)).getD .non) = _
  rw [look_al nk nk_in]
theorem set_nA (l : List (Nat × β)) (p : Nat) (y : β) (h : l.length < SZ) (hy : imm (em y) = true) : setD (nA em l) (.int p) (em y) = some (nA em (alP l p y)) := by
  show (if imm (em y) = true ∧ (l.map fun x => nk x.1).length < SZ then some (D.dK (putKs (nk p) (l.map fun x => nk x.1)) (putVs (nk p) (em y) (l.map fun x => nk x.1) (l.map fun x => em x.2))) else none) = _
  rw [if_pos ⟨hy, by rw [List.length_map]; exact h⟩, putKs_al nk nk_in l p y, putVs_al nk nk_in]
  rfl
theorem rows_pA [DecidableEq β] {k : Nat} (he : Eqs em k) {l m : List (Pr × β)} (h1 : (alK l).Nodup) (h2 : (alK m).Nodup) (h : ∀ p, alG l p = alG m p) :
    (decide ((l.map fun x => kp x.1).length = (m.map fun x => kp x.1).length) && rowsEq (m.map fun x => kp x.1) (m.map fun x => em x.2) (l.map fun x => kp x.1) (l.map fun x => em x.2)) = true := by
  rw [rows_al kp kp_in em he.eq, List.length_map, List.length_map, al_len h1 h2 h]
  simp only [decide_true, Bool.true_and, List.all_eq_true, decide_eq_true_eq]
  intro x hx
  rw [← h]
  exact alG_of h1 hx
theorem shals_al {α : Type} {k n : Nat} [DecidableEq β] (he : Eqs em k) (hk : k ≤ n) : ∀ l : List (α × β), shals (l.map fun x => em x.2) n = true
  | [] => rfl
  | x :: l => by rw [List.map_cons, shals, he.sh _ _ hk, shals_al he hk l]; rfl
theorem eq_pA [DecidableEq β] {k : Nat} (he : Eqs em k) (hk : k ≤ 11) {l m : List (Pr × β)} (h1 : (alK l).Nodup) (h2 : (alK m).Nodup) (h : ∀ p, alG l p = alG m p) : eqT (pA em l) (pA em m) = some true := by
  show (if (shals (l.map fun x => em x.2) 11 && shals (m.map fun x => em x.2) 11) = true then some (decide ((l.map fun x => kp x.1).length = (m.map fun x => kp x.1).length) && rowsEq (m.map fun x => kp x.1) (m.map fun x => em x.2) (l.map fun x => kp x.1) (l.map fun x => em x.2)) else none) = _
  rw [shals_al he hk, shals_al he hk, if_pos (by rfl), rows_pA he h1 h2 h]
theorem ne_pA [DecidableEq β] {k : Nat} (he : Eqs em k) (hk : k ≤ 11) {l m : List (Pr × β)} (h1 : (alK l).Nodup) (h2 : (alK m).Nodup) (h : ∀ p, alG l p = alG m p) : neT (pA em l) (pA em m) = some false := by
  show (if (shals (l.map fun x => em x.2) 11 && shals (m.map fun x => em x.2) 11) = true then some (!(decide ((l.map fun x => kp x.1).length = (m.map fun x => kp x.1).length) && rowsEq (m.map fun x => kp x.1) (m.map fun x => em x.2) (l.map fun x => kp x.1) (l.map fun x => em x.2))) else none) = _
  rw [shals_al he hk, shals_al he hk, if_pos (by rfl), rows_pA he h1 h2 h]
  rfl
end
/-! ### arcs' costs by pairs -/
abbrev Ac := List (Pr × C)
structure AOk (n : Nat) (l : Ac) : Prop where
  nd : (alK l).Nodup
  rng : ∀ p ∈ alK l, p.1 < n ∧ p.2 < n ∧ p.1 ≠ p.2
theorem AOk.nil {n : Nat} : AOk n [] := ⟨List.nodup_nil, fun _ h => nomatch h⟩
theorem AOk.put {n : Nat} {l : Ac} (a : AOk n l) {p : Pr} {c : C} (h : p.1 < n ∧ p.2 < n ∧ p.1 ≠ p.2) : AOk n (alP l p c) :=
  ⟨alP_nodup a.nd, fun q hq => (alP_mem hq).elim (a.rng q) fun e => by rw [e]; exact h⟩
def allP (n : Nat) : List Pr := (List.range n).flatMap fun a => (List.range n).map fun b => (a, b)
theorem allP_len (n : Nat) : (allP n).length = n * n := by
  unfold allP
  rw [List.length_flatMap]
  have : ∀ l : List Nat, (l.map fun a => ((List.range n).map fun b => ((a, b) : Pr)).length).sum = l.length * n := by
    intro l
    induction l with
    | nil => simp
    | cons a l ih =>
      rw [List.map_cons, List.sum_cons, ih, List.length_map, List.length_range, List.length_cons, Nat.succ_mul, Nat.add_comm]
  rw [this, List.length_range]
theorem AOk.len {n : Nat} {l : Ac} (a : AOk n l) : l.length ≤ n * n := by
  have := nodup_le (alK l) (allP n) a.nd fun p hp => by
    have := a.rng p hp
    unfold allP
    exact List.mem_flatMap.mpr ⟨p.1, List.mem_range.mpr this.1, List.mem_map.mpr ⟨p.2, List.mem_range.mpr this.2.1, rfl⟩⟩
  rw [allP_len] at this
  unfold alK at this
  rwa [List.length_map] at this
theorem AOk.get {n : Nat} {l : Ac} (a : AOk n l) {p : Pr} {c : C} (h : alG l p = some c) : p.1 < n ∧ p.2 < n ∧ p.1 ≠ p.2 := a.rng p ((alG_isSome l p).mp (by rw [h]; rfl))
/-- keep the lesser cost -/
def alM {α : Type} [DecidableEq α] (l : List (α × C)) (k : α) (c : C) : List (α × C) := match alG l k with
  | none => alP l k c
  | some d => if clt c d = true then alP l k c else l
theorem alG_M {α : Type} [DecidableEq α] (l : List (α × C)) (k : α) (c : C) (j : α) : alG (alM l k c) j = if k = j then lmin (alG l k) (some c) else alG l j := by
  unfold alM
  cases h : alG l k with
  | none =>
    simp only [alG_put]
    rfl
  | some d =>
    simp only
    have e : lmin (some d) (some c) = if clt c d = true then some c else some d := rfl
    by_cases hc : clt c d = true
    · rw [if_pos hc, alG_put, e, if_pos hc]
    · rw [if_neg hc, e, if_neg hc]
      split
      · rename_i z; rw [← z]; exact h
      · rfl
theorem AOk.min {n : Nat} {l : Ac} (a : AOk n l) {p : Pr} {c : C} (h : p.1 < n ∧ p.2 < n ∧ p.1 ≠ p.2) : AOk n (alM l p c) := by
  unfold alM
  split
  · exact a.put h
  · split
    · exact a.put h
    · exact a
theorem lmin_idem (a b : Option C) : lmin (lmin a b) b = lmin a b := by
  rw [lmin_assoc]
  congr 1
  exact lmin_eq_l (ole_refl b)
/-- the least roads by pairs -/
def rcs1 (l : Ac) (r : Rd) : Ac := match rcost r with
  | some c => alM l (r.s, r.e) c
  | none => l
def rcs (rs : List Rd) : Ac := rs.foldl rcs1 []
theorem rcs_snoc (rs : List Rd) (r : Rd) : rcs (rs ++ [r]) = rcs1 (rcs rs) r := by unfold rcs; rw [List.foldl_append]; rfl
theorem rcs1_ok {n : Nat} {l : Ac} (a : AOk n l) {r : Rd} (h1 : r.s < n) (h2 : r.e < n) (h3 : r.s ≠ r.e) : AOk n (rcs1 l r) := by
  unfold rcs1
  split
  · exact a.min ⟨h1, h2, h3⟩
  · exact a
theorem rcs_ok {n : Nat} : ∀ (rs : List Rd) {l : Ac}, AOk n l → (∀ r ∈ rs, r.s < n ∧ r.e < n ∧ r.s ≠ r.e) → AOk n (rs.foldl rcs1 l)
  | [], _, a, _ => a
  | r :: rs, _, a, h => rcs_ok rs (rcs1_ok a (h r List.mem_cons_self).1 (h r List.mem_cons_self).2.1 (h r List.mem_cons_self).2.2) fun x hx => h x (List.mem_cons_of_mem _ hx)
theorem rcs1_get (l : Ac) (r : Rd) (j : Pr) : alG (rcs1 l r) j = if (r.s, r.e) = j then lmin (alG l j) (rcost r) else alG l j := by
  unfold rcs1
  cases h : rcost r with
  | none => simp only [lmin_none]; split <;> rfl
  | some c =>
    simp only [alG_M]
    split
    · rename_i e; rw [e]
    · rfl
theorem rcs_spec : ∀ (rs : List Rd) (l : Ac) (u w : Nat),
    (∀ c, Ed rs u w c → ole (alG (rs.foldl rcs1 l) (u, w)) (some c)) ∧ ole (alG (rs.foldl rcs1 l) (u, w)) (alG l (u, w)) ∧ (∀ c, alG (rs.foldl rcs1 l) (u, w) = some c → alG l (u, w) = some c ∨ Ed rs u w c)
  | [], l, u, w => ⟨(fun c ⟨r, h, _⟩ => nomatch h), ole_refl _, fun c h => .inl h⟩
  | r :: rs, l, u, w => by
    obtain ⟨h1, h2, h3⟩ := rcs_spec rs (rcs1 l r) u w
    rw [List.foldl_cons]
    have g := rcs1_get l r (u, w)
    refine ⟨fun c ⟨x, hx, e1, e2, e3⟩ => ?_, ole_trans h2 ?_, fun c hc => ?_⟩
    · rcases List.mem_cons.mp hx with rfl | hx
      · refine ole_trans h2 ?_
        rw [g, if_pos (by rw [e1, e2]), e3]
        exact lmin_le_r _ _
      · exact h1 c ⟨x, hx, e1, e2, e3⟩
    · rw [g]
      split
      · exact lmin_le_l _ _
      · exact ole_refl _
    · rcases h3 c hc with z | ⟨x, hx, e⟩
      · rw [g] at z
        split at z
        · rename_i e
          rcases lmin_some z with z | z
          · exact .inl z
          · injection e with e1 e2
            exact .inr ⟨r, List.mem_cons_self, e1, e2, z⟩
        · exact .inl z
      · exact .inr ⟨x, List.mem_cons_of_mem _ hx, e⟩
theorem rcs_le {rs : List Rd} {u w : Nat} {c : C} (h : Ed rs u w c) : ole (alG (rcs rs) (u, w)) (some c) := (rcs_spec rs [] u w).1 c h
theorem rcs_at {rs : List Rd} {u w : Nat} {c : C} (h : alG (rcs rs) (u, w) = some c) : Ed rs u w c := ((rcs_spec rs [] u w).2.2 c h).resolve_left fun z => nomatch z
/-- going over a place -/
def ovp (m : Nat) (l : Ac) (p : Pr) : Ac := if p.1 = p.2 then l else match oadd (alG l (p.1, m)) (alG l (m, p.2)) with
  | some c => alM l p c
  | none => l
theorem ovp_get (m : Nat) (l : Ac) (p j : Pr) : alG (ovp m l p) j = if p = j ∧ p.1 ≠ p.2 then lmin (alG l p) (oadd (alG l (p.1, m)) (alG l (m, p.2))) else alG l j := by
  unfold ovp
  by_cases e : p.1 = p.2
  · rw [if_pos e, if_neg (fun z => z.2 e)]
  · rw [if_neg e]
    cases h : oadd (alG l (p.1, m)) (alG l (m, p.2)) with
    | none =>
      simp only [lmin_none]
      split
      · rename_i z; rw [z.1]
      · rfl
    | some c =>
      simp only [alG_M]
      by_cases e2 : p = j
      · rw [if_pos e2, if_pos ⟨e2, e⟩]
      · rw [if_neg e2, if_neg fun z => e2 z.1]
theorem ovp_ok {n : Nat} {l : Ac} (a : AOk n l) {m : Nat} {p : Pr} (h : p.1 < n ∧ p.2 < n) : AOk n (ovp m l p) := by
  unfold ovp
  split
  · exact a
  · split
    · exact a.min ⟨h.1, h.2, by assumption⟩
    · exact a
def ov1 (m a : Nat) (ends : List Nat) (l : Ac) : Ac := ends.foldl (fun l b => ovp m l (a, b)) l
def ov (m : Nat) (ends as : List Nat) (l : Ac) : Ac := as.foldl (fun l a => ov1 m a ends l) l
theorem ov1_get (m a : Nat) (ha : a ≠ m) (u w : Nat) : ∀ (ends : List Nat) (l : Ac), m ∉ ends → alG (ov1 m a ends l) (u, w) = if u = a ∧ w ∈ ends ∧ u ≠ w then lmin (alG l (u, w)) (oadd (alG l (u, m)) (alG l (m, w))) else alG l (u, w)
  | [], l, _ => by simp [ov1]
  | b :: ends, l, h => by
    have hb : b ≠ m := fun e => h (by rw [e]; exact List.mem_cons_self)
    have ih := ov1_get m a ha u w ends (ovp m l (a, b)) fun z => h (List.mem_cons_of_mem _ z)
    have e : ov1 m a (b :: ends) l = ov1 m a ends (ovp m l (a, b)) := rfl
    rw [e, ih]
    have g := fun j => ovp_get m l (a, b) j
    have g1 : alG (ovp m l (a, b)) (u, m) = alG l (u, m) := by
      rw [g, if_neg]
      rintro ⟨z, _⟩
      injection z with z1 z2
      exact hb z2
    have g2 : alG (ovp m l (a, b)) (m, w) = alG l (m, w) := by
      rw [g, if_neg]
      rintro ⟨z, _⟩
      injection z with z1 z2
      exact ha z1
    rw [g1, g2, g]
    by_cases e1 : u = a
    · subst e1
      by_cases e2 : w = b
      · subst e2
        by_cases e3 : u = w
        · simp [e3]
        · simp only [e3, ne_eq, not_false_eq_true, and_self, if_true, true_and, and_true, List.mem_cons, true_or]
          split
          · exact lmin_idem _ _
          · rfl
      · have e3 : ¬ ((u, b) = (u, w)) := fun z => e2 (by injection z with _ z; exact z.symm)
        simp [e3, e2]
    · have e3 : ¬ ((a, b) = (u, w)) := fun z => e1 (by injection z with z _; exact z.symm)
      simp [e3, e1]
theorem ov_get (m : Nat) (ends : List Nat) (hm : m ∉ ends) (u w : Nat) : ∀ (as : List Nat) (l : Ac), m ∉ as → alG (ov m ends as l) (u, w) = if u ∈ as ∧ w ∈ ends ∧ u ≠ w then lmin (alG l (u, w)) (oadd (alG l (u, m)) (alG l (m, w))) else alG l (u, w)
  | [], l, _ => by simp [ov]
  | a :: as, l, h => by
    have ha : a ≠ m := fun e => h (by rw [e]; exact List.mem_cons_self)
    have ih := ov_get m ends hm u w as (ov1 m a ends l) fun z => h (List.mem_cons_of_mem _ z)
    have e : ov m ends (a :: as) l = ov m ends as (ov1 m a ends l) := rfl
    rw [e, ih]
    have g1 : alG (ov1 m a ends l) (u, m) = alG l (u, m) := by
      rw [ov1_get m a ha u m ends l hm, if_neg]
      exact fun z => hm z.2.1
    have g2 : alG (ov1 m a ends l) (m, w) = alG l (m, w) := by
      rw [ov1_get m a ha m w ends l hm, if_neg]
      exact fun z => ha z.1.symm
    rw [g1, g2, ov1_get m a ha u w ends l hm]
    by_cases e1 : u = a
    · subst e1
      by_cases e2 : w ∈ ends ∧ u ≠ w
      · simp only [e2, ne_eq, not_false_eq_true, and_self, and_true, true_and, if_true, List.mem_cons, true_or]
        split
        · exact lmin_idem _ _
        · rfl
      · have : ¬ (u = u ∧ w ∈ ends ∧ u ≠ w) := fun z => e2 z.2
        rw [if_neg this]
        have : ¬ (u ∈ as ∧ w ∈ ends ∧ u ≠ w) := fun z => e2 z.2
        rw [if_neg this, if_neg fun z => e2 z.2]
    · simp [e1]
theorem ov1_ok {n m a : Nat} (ha : a < n) : ∀ (ends : List Nat) {l : Ac}, AOk n l → (∀ b ∈ ends, b < n) → AOk n (ov1 m a ends l)
  | [], _, h, _ => h
  | b :: ends, _, h, k => ov1_ok ha ends (ovp_ok h ⟨ha, k b List.mem_cons_self⟩) fun x hx => k x (List.mem_cons_of_mem _ hx)
theorem ov_ok {n m : Nat} {ends : List Nat} (he : ∀ b ∈ ends, b < n) : ∀ (as : List Nat) {l : Ac}, AOk n l → (∀ b ∈ as, b < n) → AOk n (ov m ends as l)
  | [], _, h, _ => h
  | a :: as, _, h, k => ov_ok he as (ov1_ok (k a List.mem_cons_self) ends h he) fun x hx => k x (List.mem_cons_of_mem _ hx)
/-! ### orders and ranks -/
structure Ordr (n : Nat) (ord : List Nat) : Prop where
  nd : ord.Nodup
  mem : ∀ x, x ∈ ord ↔ x < n
theorem Ordr.len {n : Nat} {ord : List Nat} (h : Ordr n ord) : ord.length = n := by
  have a := nodup_le ord (List.range n) h.nd fun x hx => List.mem_range.mpr ((h.mem x).mp hx)
  have b := nodup_le (List.range n) ord List.nodup_range fun x hx => (h.mem x).mpr (List.mem_range.mp hx)
  rw [List.length_range] at a b
  omega
theorem Ordr.rev {n : Nat} {ord : List Nat} (h : Ordr n ord) : Ordr n ord.reverse := ⟨List.nodup_iff_pairwise_ne.mpr (List.pairwise_reverse.mpr ((List.nodup_iff_pairwise_ne.mp h.nd).imp fun z => Ne.symm z)), fun x => by rw [List.mem_reverse]; exact h.mem x⟩
def rkF (ord : List Nat) (x : Nat) : Nat := if x ∈ ord then ord.idxOf x else ord.length + x
theorem rkF_in {ord : List Nat} {x : Nat} (h : x ∈ ord) : rkF ord x = ord.idxOf x := if_pos h
theorem rkF_lt {ord : List Nat} {x : Nat} : rkF ord x < ord.length ↔ x ∈ ord := by
  unfold rkF
  split
  · rename_i h
    exact ⟨fun _ => h, fun _ => List.idxOf_lt_length_iff.mpr h⟩
  · rename_i h
    exact ⟨fun z => by omega, fun z => absurd z h⟩
theorem rkF_get {ord : List Nat} {x : Nat} (h : x ∈ ord) : ord[rkF ord x]? = some x := by
  rw [rkF_in h]
  have := List.idxOf_lt_length_iff.mpr h
  rw [List.getElem?_eq_getElem this]
  simp
theorem rkF_at {ord : List Nat} (hn : ord.Nodup) {i x : Nat} (h : ord[i]? = some x) : rkF ord x = i := by
  have hm := List.mem_of_getElem? h
  have h1 := rkF_get hm
  have h2 := rkF_lt.mpr hm
  obtain ⟨h3, h4⟩ := List.getElem?_eq_some_iff.mp h
  rw [List.getElem?_eq_getElem h2] at h1
  have h5 : ord[rkF ord x] = ord[i] := by rw [h4]; exact Option.some.inj h1
  exact (List.getElem_inj hn).mp h5
theorem rkF_inj {ord : List Nat} (x y : Nat) (h : rkF ord x = rkF ord y) : x = y := by
  by_cases hx : x ∈ ord
  · have hy : y ∈ ord := rkF_lt.mp (by rw [← h]; exact rkF_lt.mpr hx)
    have a := rkF_get hx
    rw [h, rkF_get hy] at a
    exact (Option.some.inj a).symm
  · have hy : y ∉ ord := fun z => hx (rkF_lt.mp (by rw [h]; exact rkF_lt.mpr z))
    unfold rkF at h
    rw [if_neg hx, if_neg hy] at h
    omega
theorem mem_drop {ord : List Nat} (hn : ord.Nodup) {i x : Nat} : x ∈ ord.drop i ↔ x ∈ ord ∧ i ≤ rkF ord x := by
  constructor
  · intro h
    refine ⟨List.mem_of_mem_drop h, ?_⟩
    obtain ⟨j, hj⟩ := List.getElem?_of_mem h
    rw [List.getElem?_drop] at hj
    rw [rkF_at hn hj]
    omega
  · rintro ⟨h1, h2⟩
    have := rkF_get h1
    refine List.mem_of_getElem? (i := rkF ord x - i) ?_
    rw [List.getElem?_drop, show i + (rkF ord x - i) = rkF ord x by omega]
    exact this
theorem mem_take {ord : List Nat} (hn : ord.Nodup) {i x : Nat} (hi : i ≤ ord.length) : x ∈ ord.take i ↔ rkF ord x < i := by
  constructor
  · intro h
    obtain ⟨j, hj⟩ := List.getElem?_of_mem h
    have hj2 : j < i := by
      obtain ⟨h3, _⟩ := List.getElem?_eq_some_iff.mp hj
      rw [List.length_take] at h3
      omega
    rw [List.getElem?_take_of_lt hj2] at hj
    rw [rkF_at hn hj]
    exact hj2
  · intro h
    have hm : x ∈ ord := rkF_lt.mp (by omega)
    have := rkF_get hm
    refine List.mem_of_getElem? (i := rkF ord x) ?_
    rw [List.getElem?_take_of_lt h]
    exact this
/-- all arcs' costs: after so many places -/
def acI (ord : List Nat) (l : Ac) : Nat → Ac
  | 0 => l
  | i + 1 => match ord[i]? with
    | some m => ov m (ord.drop (i + 1)) (ord.drop (i + 1)) (acI ord l i)
    | none => acI ord l i
def acs (rs : List Rd) (ord : List Nat) : Ac := acI ord (rcs rs) ord.length
variable {n : Nat} {rs : List Rd} {ord : List Nat}
theorem acI_ok {l : Ac} (a : AOk n l) (h : Ordr n ord) : ∀ i, AOk n (acI ord l i)
  | 0 => a
  | i + 1 => by
    have ih := acI_ok a h i
    unfold acI
    split
    · have : ∀ b ∈ ord.drop (i + 1), b < n := fun b hb => (h.mem b).mp (List.mem_of_mem_drop hb)
      exact ov_ok this _ ih this
    · exact ih
theorem acI_ti (o : Okm n rs) (h : Ordr n ord) : ∀ i, i ≤ n → TI (Ed rs) (rkF ord) n i fun u w => alG (acI ord (rcs rs) i) (u, w)
  | 0, _ => TI.zero (fun u w c _ _ _ e => rcs_le e) fun u w c _ _ _ e => rcs_at e
  | i + 1, hi => by
    have ih := acI_ti o h i (by omega)
    have hl : i < ord.length := by rw [h.len]; omega
    obtain ⟨m, hm⟩ : ∃ m, ord[i]? = some m := ⟨_, List.getElem?_eq_getElem hl⟩
    have hr := rkF_at h.nd hm
    have hmn : m < n := (h.mem m).mp (List.mem_of_getElem? hm)
    have hnot : m ∉ ord.drop (i + 1) := fun z => by
      have := ((mem_drop h.nd).mp z).2
      omega
    have e : acI ord (rcs rs) (i + 1) = ov m (ord.drop (i + 1)) (ord.drop (i + 1)) (acI ord (rcs rs) i) := by
      show (match ord[i]? with
        | some m => ov m (ord.drop (i + 1)) (ord.drop (i + 1)) (acI ord (rcs rs) i)
        | none => acI ord (rcs rs) i) = _
      rw [hm]
    rw [e]
    have md : ∀ x, x < n → (x ∈ ord.drop (i + 1) ↔ i < rkF ord x) := fun x hx => by
      rw [mem_drop h.nd]
      exact ⟨fun z => z.2, fun z => ⟨(h.mem x).mpr hx, z⟩⟩
    refine ih.step o.pos rkF_inj hmn hr (fun u w hu hw hne h1 h2 => ?_) fun u w hu hw hne hno => ?_
    · rw [ov_get m _ hnot u w _ _ hnot, if_pos ⟨(md u hu).mpr h1, (md w hw).mpr h2, hne⟩]
    · rw [ov_get m _ hnot u w _ _ hnot, if_neg]
      exact fun z => hno ⟨(md u hu).mp z.1, (md w hw).mp z.2.1⟩
theorem acs_aok (o : Okm n rs) (h : Ordr n ord) : AOk n (acs rs ord) := acI_ok (rcs_ok rs .nil fun r hr => ⟨o.s r hr, o.e r hr, o.ne r hr⟩) h _
theorem acs_get (o : Okm n rs) (h : Ordr n ord) {u w : Nat} (hu : u < n) (hw : w < n) (hne : u ≠ w) : alG (acs rs ord) (u, w) = acO o.pos (rkF ord) u w := by
  have := acI_ti o h n (Nat.le_refl _)
  unfold acs
  rw [h.len]
  exact this.acO o.pos (fun x hx => by
    have := rkF_lt.mpr ((h.mem x).mpr hx)
    rwa [h.len] at this) hu hw hne
/-! ### a table of pairs by a rule -/
def st1 (g : Nat → Nat → Option C) (l : Ac) (a b : Nat) : Ac := if a = b then l else match g a b with
  | some c => alP l (a, b) c
  | none => l
theorem st1_get (g : Nat → Nat → Option C) (l : Ac) (a b u w : Nat) (h : alG l (a, b) = none ∨ alG l (a, b) = g a b) : alG (st1 g l a b) (u, w) = if u = a ∧ w = b ∧ u ≠ w then g u w else alG l (u, w) := by
  unfold st1
  by_cases e : a = b
  · rw [if_pos e, if_neg]
    rintro ⟨rfl, rfl, z⟩
    exact z e
  · rw [if_neg e]
    cases hg : g a b with
    | none =>
      simp only
      split
      · rename_i z
        obtain ⟨rfl, rfl, _⟩ := z
        rw [hg]
        rcases h with h | h
        · exact h
        · rw [h, hg]
      · rfl
    | some c =>
      simp only [alG_put]
      by_cases z : u = a ∧ w = b
      · obtain ⟨rfl, rfl⟩ := z
        simp [e, hg]
      · have : ¬ ((a, b) = (u, w)) := fun y => z (by injection y with y1 y2; exact ⟨y1.symm, y2.symm⟩)
        rw [if_neg this, if_neg fun y => z ⟨y.1, y.2.1⟩]
theorem st1_ok {g : Nat → Nat → Option C} {l : Ac} (a : AOk n l) {u w : Nat} (hu : u < n) (hw : w < n) : AOk n (st1 g l u w) := by
  unfold st1
  split
  · exact a
  · split
    · exact a.put ⟨hu, hw, by assumption⟩
    · exact a
def stR (g : Nat → Nat → Option C) (l : Ac) (a : Nat) (bs : List Nat) : Ac := bs.foldl (fun l b => st1 g l a b) l
def stA (g : Nat → Nat → Option C) (l : Ac) (as bs : List Nat) : Ac := as.foldl (fun l a => stR g l a bs) l
def Sub' (g : Nat → Nat → Option C) (l : Ac) : Prop := ∀ u w, alG l (u, w) = none ∨ alG l (u, w) = g u w
theorem Sub'.one {g : Nat → Nat → Option C} {l : Ac} (h : Sub' g l) (a b : Nat) : Sub' g (st1 g l a b) := fun u w => by
  rw [st1_get g l a b u w (h a b)]
  split
  · exact .inr rfl
  · exact h u w
theorem stR_get (g : Nat → Nat → Option C) (a u w : Nat) : ∀ (bs : List Nat) (l : Ac), Sub' g l → Sub' g (stR g l a bs) ∧ alG (stR g l a bs) (u, w) = if u = a ∧ w ∈ bs ∧ u ≠ w then g u w else alG l (u, w)
  | [], l, h => ⟨h, by simp [stR]⟩
  | b :: bs, l, h => by
    obtain ⟨i1, i2⟩ := stR_get g a u w bs (st1 g l a b) (h.one a b)
    refine ⟨i1, ?_⟩
    show alG (stR g (st1 g l a b) a bs) (u, w) = _
    rw [i2, st1_get g l a b u w (h a b)]
    by_cases e1 : u = a
    · by_cases e2 : u = w
      · simp [e2]
      · by_cases e3 : w = b
        · subst e1 e3
          simp [e2]
        · simp [e1, e2, e3]
    · simp [e1]
theorem stA_get (g : Nat → Nat → Option C) (u w : Nat) (bs : List Nat) : ∀ (as : List Nat) (l : Ac), Sub' g l → Sub' g (stA g l as bs) ∧ alG (stA g l as bs) (u, w) = if u ∈ as ∧ w ∈ bs ∧ u ≠ w then g u w else alG l (u, w)
  | [], l, h => ⟨h, by simp [stA]⟩
  | a :: as, l, h => by
    obtain ⟨j1, j2⟩ := stR_get g a u w bs l h
    obtain ⟨i1, i2⟩ := stA_get g u w bs as (stR g l a bs) j1
    refine ⟨i1, ?_⟩
    show alG (stA g (stR g l a bs) as bs) (u, w) = _
    rw [i2, j2]
    by_cases e1 : u = a
    · by_cases e2 : w ∈ bs ∧ u ≠ w
      · subst e1
        simp [e2]
      · have : ∀ p : Prop, ¬ (p ∧ w ∈ bs ∧ u ≠ w) := fun p z => e2 z.2
        simp only [this, if_false]
    · simp [e1]
theorem stR_ok {g : Nat → Nat → Option C} {a : Nat} (ha : a < n) : ∀ (bs : List Nat) {l : Ac}, AOk n l → (∀ b ∈ bs, b < n) → AOk n (stR g l a bs)
  | [], _, h, _ => h
  | b :: bs, _, h, k => stR_ok ha bs (st1_ok h ha (k b List.mem_cons_self)) fun x hx => k x (List.mem_cons_of_mem _ hx)
theorem stA_ok {g : Nat → Nat → Option C} {bs : List Nat} (hb : ∀ b ∈ bs, b < n) : ∀ (as : List Nat) {l : Ac}, AOk n l → (∀ a ∈ as, a < n) → AOk n (stA g l as bs)
  | [], _, h, _ => h
  | a :: as, _, h, k => stA_ok hb as (stR_ok (k a List.mem_cons_self) bs h hb) fun x hx => k x (List.mem_cons_of_mem _ hx)
/-- the table of the arcs' costs by the rule -/
noncomputable def acT (o : Okm n rs) (ord : List Nat) : Ac := stA (acO o.pos (rkF ord)) [] ord ord
theorem acT_ok (o : Okm n rs) (h : Ordr n ord) : AOk n (acT o ord) := stA_ok (fun b hb => (h.mem b).mp hb) ord .nil fun b hb => (h.mem b).mp hb
theorem acT_get (o : Okm n rs) (h : Ordr n ord) (p : Pr) : alG (acT o ord) p = alG (acs rs ord) p := by
  obtain ⟨u, w⟩ := p
  unfold acT
  rw [(stA_get _ u w ord ord [] fun _ _ => .inl rfl).2]
  split
  · rename_i z
    rw [acs_get o h ((h.mem u).mp z.1) ((h.mem w).mp z.2.1) z.2.2]
  · rename_i z
    symm
    show _ = none
    rw [alG_none]
    intro y
    have := (acs_aok o h).rng _ y
    exact z ⟨(h.mem u).mpr this.1, (h.mem w).mpr this.2.1, this.2.2⟩
end Pd
set_option Elab.async false
set_option linter.all false
set_option maxRecDepth 100000
set_option maxHeartbeats 4000000
namespace Pd
open PySem L2
/-! ### rounds of relaxing until nothing gets better -/
def bfg (p : Cs × Bool) (r : Rd) : Cs × Bool := (relax p.1 r, p.2 || decide (relv p.1 r ≠ at' p.1 r.e))
theorem bfg_fst (l : List Rd) : ∀ p : Cs × Bool, (l.foldl bfg p).1 = rnd p.1 l := by
  induction l with
  | nil => exact fun p => rfl
  | cons r l ih => exact fun p => ih _
theorem relax_eq {f : Cs} {r : Rd} (h : r.e < f.length) (k : relv f r = at' f r.e) : relax f r = f := by
  unfold relax
  rw [k]
  refine List.ext_getElem? fun i => ?_
  rw [List.getElem?_set]
  split
  · rename_i e
    subst e
    exact (at_get h).symm
  · rfl
theorem bfg_true (l : List Rd) : ∀ f : Cs, (l.foldl bfg (f, true)).2 = true := by
  induction l with
  | nil => exact fun f => rfl
  | cons r l ih => exact fun f => ih _
theorem bfg_same (l : List Rd) : ∀ f : Cs, (∀ r ∈ l, r.e < f.length) → (l.foldl bfg (f, false)).2 = false → rnd f l = f ∧ ∀ r ∈ l, relv f r = at' f r.e := by
  induction l with
  | nil => exact fun f _ _ => ⟨rfl, fun r h => nomatch h⟩
  | cons r l ih =>
    intro f h k
    rw [List.foldl_cons] at k
    by_cases e : relv f r = at' f r.e
    · have e2 := relax_eq (h r List.mem_cons_self) e
      have e1 : bfg (f, false) r = (f, false) := by simp [bfg, e, e2]
      rw [e1] at k
      obtain ⟨a, b⟩ := ih f (fun x hx => h x (List.mem_cons_of_mem _ hx)) k
      refine ⟨?_, fun x hx => ?_⟩
      · show rnd (relax f r) l = f
        rw [e2, a]
      · rcases List.mem_cons.mp hx with rfl | hx
        · exact e
        · exact b x hx
    · have e1 : bfg (f, false) r = (relax f r, true) := by simp [bfg, e]
      rw [e1, bfg_true] at k
      cases k
theorem bfg_still (l : List Rd) (f : Cs) (h : ∀ r ∈ l, r.e < f.length) (k : ∀ r ∈ l, relv f r = at' f r.e) : l.foldl bfg (f, false) = (f, false) := by
  induction l with
  | nil => rfl
  | cons r l ih =>
    have e := k r List.mem_cons_self
    have e2 := relax_eq (h r List.mem_cons_self) e
    have e1 : bfg (f, false) r = (f, false) := by simp [bfg, e, e2]
    rw [List.foldl_cons, e1]
    exact ih (fun x hx => h x (List.mem_cons_of_mem _ hx)) fun x hx => k x (List.mem_cons_of_mem _ hx)
inductive Rds (rs : List Rd) : Nat → Cs → Cs → Prop
  | stop {f : Cs} : (rs.foldl bfg (f, false)).2 = false → rnd f rs = f → Rds rs 1 f f
  | go {f g : Cs} {k : Nat} : (rs.foldl bfg (f, false)).2 = true → Rds rs k (rnd f rs) g → Rds rs (k + 1) f g
variable {n : Nat} {rs : List Rd}
theorem rds_ok (o : Ok n rs) (u : Nat) : ∀ (m : Nat) (f : Cs), left o u f ≤ m → Abv o u f → at' f u = some (0, 0) → ∃ k, k ≤ m + 1 ∧ Rds rs k f (dl o u) := by
  intro m
  induction m with
  | zero =>
    intro f hm ha h0
    have hs : ∀ v, v < n → at' f v = ds o u v := fun v hv => Classical.byContradiction fun z => by
      have := left_lt ha h0 hv z
      omega
    have e := done_eq ha hs
    subst e
    have := bfg_still rs (dl o u) (fun r hr => by rw [dl_len]; exact o.e r hr) fun r hr => dl_relv o u hr
    refine ⟨1, by omega, .stop (by rw [this]) ?_⟩
    rw [← bfg_fst rs (dl o u, false), this]
  | succ m ih =>
    intro f hm ha h0
    cases hc : (rs.foldl bfg (f, false)).2 with
    | false =>
      obtain ⟨e1, _⟩ := bfg_same rs f (fun r hr => by rw [ha.1]; exact o.e r hr) hc
      have : f = dl o u := done_eq ha fun v hv => Classical.byContradiction fun z => by
        have := left_lt ha h0 hv z
        rw [e1] at this
        exact Nat.lt_irrefl _ this
      subst this
      exact ⟨1, by omega, .stop hc e1⟩
    | true =>
      by_cases hz : ∃ v, v < n ∧ at' f v ≠ ds o u v
      · obtain ⟨v, hv, hz⟩ := hz
        have a2 := ha.rnd rs (fun _ z => z)
        have h2 : at' (rnd f rs) u = some (0, 0) := by
          have := settled_rnd ha (fun _ z => z : ∀ r ∈ rs, r ∈ rs) (v := u) (h0.trans (dst_self o.pos u).symm)
          exact this.trans (dst_self o.pos u)
        have lt := left_lt ha h0 hv hz
        obtain ⟨k, h3, h4⟩ := ih (rnd f rs) (by omega) a2 h2
        exact ⟨k + 1, by omega, .go hc h4⟩
      · have e := done_eq ha fun v hv => Classical.byContradiction fun z => hz ⟨v, hv, z⟩
        subst e
        have := bfg_still rs (dl o u) (fun r hr => by rw [dl_len]; exact o.e r hr) fun r hr => dl_relv o u hr
        rw [this] at hc
        cases hc
theorem row0_abv (o : Ok n rs) {u : Nat} (hu : u < n) : Abv o u (row0 n u) := by
  refine ⟨by simp [row0], fun v => ?_⟩
  rw [row0_at hu]
  split
  · rename_i e
    subst e
    rw [show ds o u u = some (0, 0) from dst_self o.pos u]
    exact ole_refl _
  · exact ole_none _
theorem rds_all (o : Ok n rs) {u : Nat} (hu : u < n) : ∃ k, k ≤ n + 1 ∧ Rds rs k (row0 n u) (dl o u) :=
  rds_ok o u n (row0 n u) (left_le o u _) (row0_abv o hu) (by rw [row0_at hu, if_pos rfl])
/-- costs by place, as a dict -/
structure Sim (n : Nat) (f : Cs) (l : List (Nat × C)) : Prop where
  len : f.length = n
  nd : (alK l).Nodup
  rng : ∀ k ∈ alK l, k < n
  get : ∀ v, v < n → alG l v = at' f v
theorem Sim.size {f : Cs} {l : List (Nat × C)} (s : Sim n f l) : l.length ≤ n := by
  have := nodup_lt s.nd s.rng
  unfold alK at this
  rwa [List.length_map] at this
def btr {α : Type} [DecidableEq α] (l : List (α × C)) (k : α) (c : C) : Bool := match alG l k with
  | none => true
  | some d => clt c d
theorem btr_iff {α : Type} [DecidableEq α] (l : List (α × C)) (k : α) (c : C) : btr l k c = decide (lmin (alG l k) (some c) ≠ alG l k) := by
  unfold btr
  cases alG l k with
  | none => rfl
  | some d =>
    have e : lmin (some d) (some c) = if clt c d = true then some c else some d := rfl
    simp only [e]
    by_cases h : clt c d = true
    · rw [if_pos h, h]
      symm
      rw [decide_eq_true_eq]
      intro z
      injection z with z
      subst z
      exact absurd (cle_refl c) (clt_iff.mp h)
    · rw [if_neg h]
      simpa using h
theorem alM_btr {α : Type} [DecidableEq α] (l : List (α × C)) (k : α) (c : C) : alM l k c = if btr l k c = true then alP l k c else l := by
  unfold alM btr
  cases alG l k <;> simp
theorem alM_nodup {α : Type} [DecidableEq α] {l : List (α × C)} (h : (alK l).Nodup) (k : α) (c : C) : (alK (alM l k c)).Nodup := by
  rw [alM_btr]
  split
  · exact alP_nodup h
  · exact h
theorem alM_mem {α : Type} [DecidableEq α] {l : List (α × C)} {k x : α} {c : C} (h : x ∈ alK (alM l k c)) : x ∈ alK l ∨ x = k := by
  rw [alM_btr] at h
  split at h
  · exact alP_mem h
  · exact .inl h
theorem Sim.step {f : Cs} {l : List (Nat × C)} (s : Sim n f l) {r : Rd} (h1 : r.s < n) (h2 : r.e < n) {a b : C} (ha : alG l r.s = some a) (hb : rcost r = some b) :
    Sim n (relax f r) (alM l r.e (cadd a b)) ∧ decide (relv f r ≠ at' f r.e) = btr l r.e (cadd a b) := by
  have e : relv f r = lmin (alG l r.e) (some (cadd a b)) := by
    unfold relv
    rw [← s.get r.e h2, ← s.get r.s h1, ha, hb]
    rfl
  refine ⟨⟨(relax_len f r).trans s.len, alM_nodup s.nd _ _, fun k hk => (alM_mem hk).elim (s.rng k) fun z => by rw [z]; exact h2, fun v hv => ?_⟩, ?_⟩
  · rw [alG_M]
    unfold relax
    rw [at_set _ _ _ _ (by rw [s.len]; exact h2), e]
    split
    · rfl
    · exact s.get v hv
  · rw [btr_iff, e, ← s.get r.e h2]
theorem Sim.skip {f : Cs} {l : List (Nat × C)} (s : Sim n f l) {r : Rd} (h1 : r.s < n) (h2 : r.e < n) (h : alG l r.s = none ∨ rcost r = none) (ch : Bool) : bfg (f, ch) r = (f, ch) := by
  have e : relv f r = at' f r.e := by
    unfold relv
    rw [← s.get r.s h1]
    rcases h with h | h
    · rw [h, oadd_nonel, lmin_none]
    · rw [h, oadd_none, lmin_none]
  have e2 := relax_eq (by rw [s.len]; exact h2) e
  simp [bfg, e, e2]
theorem Sim.row0 {u : Nat} (hu : u < n) : Sim n (row0 n u) [(u, (0, 0))] where
  len := by simp [Pd.row0]
  nd := by simp [alK]
  rng := fun k hk => by
    simp [alK] at hk
    rw [hk]; exact hu
  get := fun v hv => by
    rw [row0_at hu]
    rfl
theorem Sim.at_ {f : Cs} {l : List (Nat × C)} (s : Sim n f l) {v : Nat} (hv : v < n) : alG l v = at' f v := s.get v hv
/-- the roads from the start and from the places between -/
def rsel (u : Nat) (inner : List Nat) (rs : List Rd) : List Rd := rs.filter fun x => decide (x.s = u) || decide (x.s ∈ inner)
theorem Ok.rsel (o : Ok n rs) (u : Nat) (inner : List Nat) : Ok n (rsel u inner rs) := o.sub fun r hr => (List.mem_filter.mp hr).1
theorem ds_rsel (o : Ok n rs) (r : Nat → Nat) (u w : Nat) (inner : List Nat) (h : ∀ x, x ∈ inner ↔ bel r u w x) : ds (o.rsel u inner) u w = acO o.pos r u w := by
  refine dst_congr _ _ (fun x y c => ⟨fun ⟨z, hz, e1, e2, e3⟩ => ?_, fun ⟨⟨z, hz, e1, e2, e3⟩, k⟩ => ?_⟩) u w
  · obtain ⟨h1, h2⟩ := List.mem_filter.mp hz
    refine ⟨⟨z, h1, e1, e2, e3⟩, ?_⟩
    simp only [Bool.or_eq_true, decide_eq_true_eq] at h2
    rw [← e1]
    exact h2.imp id (h _).mp
  · refine ⟨z, List.mem_filter.mpr ⟨hz, ?_⟩, e1, e2, e3⟩
    simp only [Bool.or_eq_true, decide_eq_true_eq]
    rw [← e1] at k
    exact k.imp id (h _).mpr
end Pd
set_option Elab.async false
set_option linter.all false
set_option maxRecDepth 100000
set_option maxHeartbeats 4000000
namespace Pd
open PySem L2
/-! ### evaluation: dicts, costs, `or` with writes -/
def orM (d : D) (r : R D) (ρ : Env) : MX := match d with
  | .bl true => .ok (.bl true) ρ
  | .bl false => match r with
    | .ok d => if imm d = true then .ok d ρ else .no
    | .exc x => .exc x ρ
    | .no => .no
  | _ => .no
@[simp] theorem e_orM_t {r : R D} {ρ : Env} : orM (.bl true) r ρ = .ok (.bl true) ρ := rfl
@[simp] theorem e_orM_f {d : D} {ρ : Env} : orM (.bl false) (.ok d) ρ = if imm d = true then .ok d ρ else .no := rfl
@[simp] theorem e_orM_b {b c : Bool} {ρ : Env} : orM (.bl b) (.ok (.bl c)) ρ = .ok (.bl (b || c)) ρ := by cases b <;> rfl
@[simp] theorem e_fMOr {fM : Env → MX} {f : Env → R D} {ρ : Env} : fMOr fM f ρ = MX.bk (fM ρ) (fun d ρ' => orM d (f ρ') ρ') fun x ρ' => .exc x ρ' := by
  unfold fMOr MX.bk orM
  cases fM ρ <;> rfl
@[simp] theorem e_sClr {i : Nat} {fp : Env → R (List Nat)} {ρ : Env} : sClr i fp ρ = SR.pt ((fp ρ).bind fun p => (curD i ρ).bind fun d => ofO (((subP d p).bind clrD).map fun e => putP d p e)) (fun d' => .nx (ρ.set i (some d'))) ρ := rfl
@[simp] theorem e_tyN_dK {ks : List Key} {vs : List D} : tyN (.dK ks vs) = some "dict" := rfl
@[simp] theorem e_tyN_dT {ks : List (List Key)} {vs : List D} : tyN (.dT ks vs) = some "dict" := rfl
@[simp] theorem e_isDct_dK {ks : List Key} {vs : List D} : isDct (.dK ks vs) = true := rfl
@[simp] theorem e_isDct_dT {ks : List (List Key)} {vs : List D} : isDct (.dT ks vs) = true := rfl
@[simp] theorem e_clr_dK {ks : List Key} {vs : List D} : clrD (.dK ks vs) = some (.dK [] []) := rfl
@[simp] theorem e_clr_dT {ks : List (List Key)} {vs : List D} : clrD (.dT ks vs) = some (.dT [] []) := rfl
@[simp] theorem e_min2 {i j : Int} : minS [.int i, .int j] = some (.int (if j < i then j else i)) := rfl
theorem lt_cD (a b : C) : ltD (cD a) (cD b) = some (clt a b) := by
  have h : ltOk (cD a) (cD b) = true := by
    unfold ltOk
    simp [shal_cost, alike_cost, isNon_cost]
  show (if ltOk (cD a) (cD b) = true then some (PySem.W.dataLt (toP (cD a)) (toP (cD b))) else none) = _
  rw [if_pos h, lt_cost]
/-- keeping the lesser, seen from the data -/
def Kpl (F P c : D) (bt : Bool) (F' : D) : Prop := (bt = true ∧ notinD P F = some true ∧ setD F P c = some F') ∨ (bt = true ∧ ∃ d, notinD P F = some false ∧ ixD F P = some d ∧ ltD c d = some true ∧ setD F P c = some F') ∨ (bt = false ∧ ∃ d, notinD P F = some false ∧ ixD F P = some d ∧ ltD c d = some false ∧ F' = F)
theorem kpl_pA (l : Ac) (p : Pr) (c : C) (h : l.length < SZ) : Kpl (pA cD l) (pD p) (cD c) (btr l p c) (pA cD (alM l p c)) := by
  have n1 := nin_pA (em := cD) l p
  have i1 := ix_pA (em := cD) l p
  have s1 := set_pA l p c h (imm_cost c)
  unfold btr alM
  cases hg : alG l p with
  | none => rw [hg] at n1; exact .inl ⟨rfl, n1, s1⟩
  | some d =>
    rw [hg] at n1 i1
    have l1 := lt_cD c d
    simp only
    by_cases hc : clt c d = true
    · rw [if_pos hc]
      rw [hc] at l1
      exact .inr (.inl ⟨hc, cD d, n1, i1, l1, s1⟩)
    · rw [if_neg hc]
      simp only [Bool.not_eq_true] at hc
      rw [hc] at l1
      exact .inr (.inr ⟨hc, cD d, n1, i1, l1, rfl⟩)
theorem kpl_nA (l : List (Nat × C)) (p : Nat) (c : C) (h : l.length < SZ) : Kpl (nA cD l) (nD p) (cD c) (btr l p c) (nA cD (alM l p c)) := by
  have n1 := nin_nA (em := cD) l p
  have i1 := ix_nA (em := cD) l p
  have s1 := set_nA l p c h (imm_cost c)
  unfold btr alM
  cases hg : alG l p with
  | none => rw [hg] at n1; exact .inl ⟨rfl, n1, s1⟩
  | some d =>
    rw [hg] at n1 i1
    have l1 := lt_cD c d
    simp only
    by_cases hc : clt c d = true
    · rw [if_pos hc]
      rw [hc] at l1
      exact .inr (.inl ⟨hc, cD d, n1, i1, l1, s1⟩)
    · rw [if_neg hc]
      simp only [Bool.not_eq_true] at hc
      rw [hc] at l1
      exact .inr (.inr ⟨hc, cD d, n1, i1, l1, rfl⟩)
theorem ne_nat' (x y : Nat) : neD (nD x) (nD y) = some (!decide (x = y)) := by
  show neD (.int x) (.int y) = _
  rw [e_ne_int]
  congr 2
  exact decide_eq_decide.mpr (by omega)
theorem eq_nat' (x y : Nat) : eqD (nD x) (nD y) = some (decide (x = y)) := by
  show eqD (.int x) (.int y) = _
  rw [e_eq_int]
  congr 1
  exact decide_eq_decide.mpr (by omega)
theorem eqs_n : Eqs nD 0 := ⟨fun a k _ => by simp [nD, shal], fun a b => by
  have := eqs_int.eq (a : Int) b
  rw [show nD a = D.int a from rfl, show nD b = D.int b from rfl, this]
  exact decide_eq_decide.mpr (by omega)⟩
theorem in_nats' (l : List Nat) (p : Nat) : inD (nD p) (.lst (l.map nD)) = some (decide (p ∈ l)) := by
  have sh : shals (l.map nD) 12 = true := shals_map (fun x => by simp [nD, shal]) l
  have s2 : shal (nD p) 12 = true := by simp [nD, shal]
  show (if (shal (nD p) 12 && shals (l.map nD) 12) = true then some ((l.map nD).any fun y => PyData.eqv (toP y) (toP (nD p))) else none) = _
  rw [sh, s2, if_pos (by rfl)]
  congr 1
  rw [Bool.eq_iff_iff]
  simp only [List.any_eq_true, List.mem_map, decide_eq_true_eq]
  constructor
  · rintro ⟨_, ⟨q, hq, rfl⟩, e⟩
    rw [eqs_n.eq, decide_eq_true_eq] at e
    rw [← e]; exact hq
  · exact fun h => ⟨_, ⟨p, h, rfl⟩, by rw [eqs_n.eq]; simp⟩
theorem fnd_idx (k : Nat) : ∀ l : List Nat, k ∈ l → fndI (k : Int) (l.map fun x : Nat => (x : Int)) = some (l.idxOf k)
  | [], h => nomatch h
  | a :: l, h => by
    by_cases e : a = k
    · subst e
      simp [fndI]
    · have e' : ¬ (a : Int) = (k : Int) := fun z => e (by exact_mod_cast z)
      have e2 : (a == k) = false := by simpa using e
      simp [fndI, e', e, e2, fnd_idx k l ((List.mem_cons.mp h).resolve_left (fun z => e z.symm)), List.idxOf_cons]
theorem idx_nats {l : List Nat} {k : Nat} (h : k ∈ l) : idxD (.lst (l.map nD)) (nD k) = some (.int (rkF l k)) := by
  show (match intsOf (l.map nD) with
    | some ns => (fndI (k : Int) ns).map fun n : Nat => D.int n
    | none => none) = _
  rw [ints_nats, rkF_in h]
  simp only [fnd_idx k l h]
  rfl
theorem eqs_p : Eqs pD 1 := ⟨fun a n h => by
  obtain ⟨m, rfl⟩ := Nat.exists_eq_add_of_le h
  rw [Nat.add_comm]; simp [pD, shal, shals], fun a b => by
  obtain ⟨x, y⟩ := a
  obtain ⟨x', y'⟩ := b
  simp only [pD, toP, toPs, PyData.eqv, PyData.eqvAll, Bool.and_true, beq_dec, ← Bool.decide_and]
  refine decide_eq_decide.mpr ⟨fun ⟨h, k⟩ => Prod.ext (by simp only; omega) (by simp only; omega), fun h => ?_⟩
  injection h with h1 h2
  rw [h1, h2]; exact ⟨rfl, rfl⟩⟩
theorem tk_kp (p : Pr) : tkD (kp p) = pD p := rfl
theorem keys_pA {β : Type} (em : β → D) (l : List (Pr × β)) : keysD (pA em l) = some (l.map fun x => pD x.1) := by
  show some ((l.map fun x => kp x.1).map tkD) = _
  rw [List.map_map]
  rfl
theorem keys_nA {β : Type} (em : β → D) (l : List (Nat × β)) : keysD (nA em l) = some (l.map fun x => nD x.1) := by
  show some ((l.map fun x => nk x.1).map kD) = _
  rw [List.map_map]
  rfl
theorem fLcK_all {α : Type} {kf : D → Option (List D)} {i : Nat} {tg : D → Env → Option Env} {fe : Env → R D} {vs : List Nat} {ρ : Env} {d : D} (en : α → D) (xs : List α) (g : α → D) (hc : curD i ρ = .ok d) (hk : kf d = some (xs.map en)) (hl : xs.length ≤ SZ)
    (h : ∀ x ∈ xs, ∃ ρx, tg (en x) (wipeE ρ vs) = some ρx ∧ fe ρx = .ok (g x)) : fLcK kf i tg tTrue fe vs ρ = .ok (.lst (xs.map g)) := by
  have := lcGo_map (tg := tg) (ft := tTrue) (fe := fe) (ρ := wipeE ρ vs) en (fun x => (tg (en x) (wipeE ρ vs)).getD []) (fun _ => true) g xs fun x hx => by
    obtain ⟨ρx, h1, h2⟩ := h x hx
    rw [h1]
    exact ⟨rfl, rfl, fun _ => h2⟩
  rw [List.filter_eq_self.mpr (fun _ _ => rfl)] at this
  unfold fLcK
  rw [hc]
  simp only [R.bind_ok, hk, ofO, List.length_map, if_pos hl, this]
theorem all_map {α : Type} {p : α → Bool} {xs : List α} (h : ∀ x ∈ xs, p x = true) : allS [.lst (xs.map fun x => .bl (p x))] = some (.bl true) := by
  have k : bolsOf (xs.map fun x => D.bl (p x)) = some (xs.map p) := by
    clear h
    induction xs with
    | nil => rfl
    | cons x xs ih => simp [bolsOf, ih]
  unfold allS
  simp only [e_itmL_lst, Option.bind_some, k, Option.map_some]
  simp only [List.all_map, Option.some.injEq, D.bl.injEq, List.all_eq_true]
  exact h
end Pd
set_option Elab.async false
set_option linter.all false
set_option maxRecDepth 100000
set_option maxHeartbeats 4000000
namespace Pd
open PySem L2
/-! ### middles of arcs -/
section
variable {E : Nat → Nat → C → Prop} {r : Nat → Nat} {u w m k : Nat} {c : C}
theorem acO_tri (P : Pos E) (h1 : r m < r u) (h2 : r m < r w) : ole (acO P r u w) (oadd (acO P r u m) (acO P r m w)) := by
  cases e1 : acO P r u m with
  | none => rw [oadd_nonel]; exact ole_none _
  | some a => cases e2 : acO P r m w with
    | none => rw [oadd_none]; exact ole_none _
    | some b =>
      have w1 := (acO_lw P r u m).at_ a e1
      have w2 := (acO_lw P r m w).at_ b e2
      refine (acO_lw P r u w).le (cadd a b) (Wk.app (m := m) (w1.mono fun x hx => ?_) ⟨h1, h2⟩ (w2.mono fun x hx => ?_))
      · have := hx.1; have := hx.2; exact ⟨by omega, by omega⟩
      · have := hx.1; have := hx.2; exact ⟨by omega, by omega⟩
theorem acO_edge (P : Pos E) (e : E u w c) : ole (acO P r u w) (some c) := (acO_lw P r u w).le c (.one e)
theorem mid_go (P : Pos E) (inj : ∀ x y, r x = r y → x = y) : ∀ (k u w : Nat) (c : C), u ≠ w → k ≤ r u → k ≤ r w → Wk E (fun x => r x < k) u w c → acO P r u w = some c → E u w c ∨ ∃ m, r m < k ∧ oadd (acO P r u m) (acO P r m w) = some c := by
  intro k
  induction k with
  | zero =>
    intro u w c hne h1 h2 h h3
    exact .inl ((h.mono (S' := fun _ => False) fun x y => absurd y (by omega)).none_ hne)
  | succ k ih =>
    intro u w c hne h1 h2 h h3
    by_cases hm : ∃ m, r m = k
    · obtain ⟨m, hm⟩ := hm
      rcases Wk.split (S := fun y => r y < k) (k := m) P (fun y hy => by
        by_cases e : r y = k
        · exact .inr (inj _ _ (e.trans hm.symm))
        · exact .inl (by omega)) h with z | ⟨c1, c2, z1, z2, z3⟩
      · exact (ih u w c hne (by omega) (by omega) z h3).imp id fun ⟨m, a, b⟩ => ⟨m, by omega, b⟩
      · refine .inr ⟨m, by omega, ?_⟩
        have a1 := (acO_lw P r u m).le c1 (z1.mono fun x hx => ⟨by omega, by omega⟩)
        have a2 := (acO_lw P r m w).le c2 (z2.mono fun x hx => ⟨by omega, by omega⟩)
        have up : ole (oadd (acO P r u m) (acO P r m w)) (some c) := ole_trans (oadd_mono a1 a2) (show ole (some (cadd c1 c2)) (some c) from z3)
        have dn := acO_tri P (r := r) (u := u) (w := w) (m := m) (by omega) (by omega)
        rw [h3] at dn
        exact ole_anti up dn
    · exact (ih u w c hne (by omega) (by omega) (h.mono fun y hy => by
        have : r y ≠ k := fun e => hm ⟨y, e⟩
        omega) h3).imp id fun ⟨m, a, b⟩ => ⟨m, by omega, b⟩
theorem mid_all (P : Pos E) (inj : ∀ x y, r x = r y → x = y) (hne : u ≠ w) (h : acO P r u w = some c) : E u w c ∨ ∃ m, bel r u w m ∧ oadd (acO P r u m) (acO P r m w) = some c := by
  have h1 := (acO_lw P r u w).at_ c h
  have h2 := mid_go P inj (min (r u) (r w)) u w c hne (Nat.min_le_left _ _) (Nat.min_le_right _ _) (h1.mono fun x hx => by
    have := hx.1; have := hx.2
    show r x < min (r u) (r w)
    omega) h
  exact h2.imp id fun ⟨m, a, b⟩ => ⟨m, ⟨by omega, by omega⟩, b⟩
end
variable {n : Nat} {rs : List Rd} {ord : List Nat}
def mn (ord : List Nat) (p : Pr) : Nat := min (rkF ord p.1) (rkF ord p.2)
def bws (ord : List Nat) (p : Pr) : List Nat := ord.take (mn ord p)
def mdp (g : Pr → Option C) (p : Pr) (m : Nat) : Bool := decide (oadd (g (p.1, m)) (g (m, p.2)) = g p)
def byrd (p : Pr) (c : C) (r : Rd) : Bool := decide ((r.s, r.e) = p) && decide (rcost r = some c)
def mdl (ord : List Nat) (f r : Pr → Option C) (p : Pr) : Option Nat := if r p = f p then none else (bws ord p).find? (mdp f p)
theorem by_iff (o : Okm n rs) (h : Ordr n ord) {p : Pr} {c : C} (hc : alG (acs rs ord) p = some c) : rs.any (byrd p c) = decide (alG (rcs rs) p = some c) := by
  obtain ⟨u, w⟩ := p
  obtain ⟨hu, hw, hne⟩ := (acs_aok o h).get hc
  rw [acs_get o h hu hw hne] at hc
  rw [Bool.eq_iff_iff, decide_eq_true_eq, List.any_eq_true]
  constructor
  · rintro ⟨r, hr, hb⟩
    unfold byrd at hb
    simp only [Bool.and_eq_true, decide_eq_true_eq] at hb
    obtain ⟨e1, e2⟩ := hb
    injection e1 with e3 e4
    have e : Ed rs u w c := ⟨r, hr, e3, e4, e2⟩
    have l1 := rcs_le e
    obtain ⟨d, h1, h2⟩ := ole_some l1
    have l2 := acO_edge o.pos (r := rkF ord) (rcs_at h1)
    rw [hc] at l2
    rw [h1, cle_anti h2 l2]
  · intro hr
    obtain ⟨r, hr, e1, e2, e3⟩ := rcs_at hr
    exact ⟨r, hr, by unfold byrd; simp [e1, e2, e3]⟩
theorem bws_mem (h : Ordr n ord) {u w : Nat} (hu : u < n) (x : Nat) : x ∈ bws ord (u, w) ↔ bel (rkF ord) u w x := by
  have hr := rkF_lt.mpr ((h.mem u).mpr hu)
  unfold bws
  rw [mem_take h.nd (by unfold mn; simp only; omega)]
  show rkF ord x < min (rkF ord u) (rkF ord w) ↔ rkF ord x < rkF ord u ∧ rkF ord x < rkF ord w
  omega
theorem mid_some (o : Okm n rs) (h : Ordr n ord) {p : Pr} {c : C} (hc : alG (acs rs ord) p = some c) (hr : alG (rcs rs) p ≠ some c) : ∃ m, (bws ord p).find? (mdp (alG (acs rs ord)) p) = some m := by
  have hb := by_iff o h hc
  obtain ⟨u, w⟩ := p
  obtain ⟨hu, hw, hne⟩ := (acs_aok o h).get hc
  simp only at hu hw hne
  have hc' := hc
  rw [acs_get o h hu hw hne] at hc'
  rcases mid_all o.pos rkF_inj hne hc' with ⟨r, h1, h2, h3, h4⟩ | ⟨m, hm, he⟩
  · rw [decide_eq_false hr] at hb
    have : rs.any (byrd (u, w) c) = true := List.any_eq_true.mpr ⟨r, h1, by unfold byrd; simp [h2, h3, h4]⟩
    rw [this] at hb
    cases hb
  · have hmn : m < n := by
      have := rkF_lt.mpr ((h.mem u).mpr hu)
      have := hm.1
      exact (h.mem m).mp (rkF_lt.mp (by omega))
    have um : u ≠ m := fun e => by have := hm.1; rw [e] at this; omega
    have mw : m ≠ w := fun e => by have := hm.2; rw [e] at this; omega
    have : ((bws ord (u, w)).find? (mdp (alG (acs rs ord)) (u, w))).isSome = true := by
      rw [List.find?_isSome]
      refine ⟨m, (bws_mem h hu m).mpr hm, ?_⟩
      unfold mdp
      simp only [decide_eq_true_eq]
      rw [acs_get o h hu hmn um, acs_get o h hmn hw mw, he, hc]
    exact Option.isSome_iff_exists.mp this
/-! a rule laid over the keys of a dict -/
def ovr {α β γ : Type} (g : α → γ) (l : List (α × β)) : List (α × γ) := l.map fun x => (x.1, g x.1)
theorem ovr_keys {α β γ : Type} (g : α → γ) (l : List (α × β)) : alK (ovr g l) = alK l := by
  unfold ovr alK
  rw [List.map_map]
  rfl
theorem ovr_get {α β γ : Type} [DecidableEq α] (g : α → γ) (l : List (α × β)) (k : α) : alG (ovr g l) k = (alG l k).map fun _ => g k := by
  induction l with
  | nil => rfl
  | cons x l ih =>
    show (if x.1 = k then some (g x.1) else alG (ovr g l) k) = ((if x.1 = k then some x.2 else alG l k)).map fun _ => g k
    by_cases e : x.1 = k
    · simp [e]
    · simp [e, ih]
theorem alP_new {α β : Type} [DecidableEq α] {l : List (α × β)} {k : α} {y : β} (h : alG l k = none) : alP l k y = l ++ [(k, y)] := by
  unfold alP
  rw [h, if_neg (by simp)]
theorem take_new {α β : Type} [DecidableEq α] {l : List (α × β)} (hn : (alK l).Nodup) {i : Nat} {x : α × β} (h : l[i]? = some x) : alG (l.take i) x.1 = none := by
  rw [alG_none]
  intro hm
  unfold alK at hm hn
  rw [List.map_take] at hm
  obtain ⟨j, hj⟩ := List.getElem?_of_mem hm
  have hji : j < i := by
    obtain ⟨h3, _⟩ := List.getElem?_eq_some_iff.mp hj
    rw [List.length_take] at h3
    omega
  rw [List.getElem?_take_of_lt hji] at hj
  have hx : (l.map fun x => x.1)[i]? = some x.1 := by rw [List.getElem?_map, h]; rfl
  obtain ⟨a1, a2⟩ := List.getElem?_eq_some_iff.mp hj
  obtain ⟨b1, b2⟩ := List.getElem?_eq_some_iff.mp hx
  have := (List.getElem_inj hn).mp (a2.trans b2.symm)
  omega
end Pd
set_option Elab.async false
set_option linter.all false
set_option maxRecDepth 100000
set_option maxHeartbeats 4000000
namespace Pd
open PySem L2
/-! ### loops that search; walks over keys -/
theorem forD_find {α : Type} {h : D → Env → Option Env} {body : Env → SR} (en : α → D) (p : α → Bool) (g : α → D) (Inv : Env → Prop) : ∀ (xs : List α) (ρ : Env), Inv ρ →
    (∀ x ∈ xs, ∀ ρ, Inv ρ → ∃ ρ1, h (en x) ρ = some ρ1 ∧ (p x = false → ∃ ρ2, body ρ1 = .nx ρ2 ∧ Inv ρ2) ∧ (p x = true → ∃ ρ2, body ρ1 = .rt (g x) ρ2)) →
    match xs.find? p with
    | some x => ∃ ρ', forD h body (xs.map en) ρ = .rt (g x) ρ'
    | none => ∃ ρ', forD h body (xs.map en) ρ = .nx ρ' ∧ Inv ρ'
  | [], ρ, hi, _ => ⟨ρ, rfl, hi⟩
  | x :: xs, ρ, hi, hs => by
    obtain ⟨ρ1, h1, h2, h3⟩ := hs x List.mem_cons_self ρ hi
    rw [List.find?_cons, List.map_cons]
    unfold forD
    rw [h1]
    cases hp : p x with
    | true =>
      obtain ⟨ρ2, h4⟩ := h3 hp
      simp only [h4]
      exact ⟨ρ2, rfl⟩
    | false =>
      obtain ⟨ρ2, h4, h5⟩ := h2 hp
      simp only [h4]
      exact forD_find en p g Inv xs ρ2 h5 fun y hy => hs y (List.mem_cons_of_mem _ hy)
theorem sForK_nx {kf : D → Option (List D)} {i : Nat} {h : D → Env → Option Env} {g : Env → SR} {ρ ρ' : Env} {d : D} {ds : List D} (hc : curD i ρ = .ok d) (hk : kf d = some ds) (e : forD h g ds ρ = .nx ρ') : sForK kf i h g ρ = .nx ρ' := by
  unfold sForK
  rw [hc]
  simp only [R.bind_ok, hk, ofO, e]
  rfl
theorem len_pA {β : Type} (em : β → D) (l : List (Pr × β)) : lenS [pA em l] = some (.int l.length) := by
  show some (D.int (l.map fun x => kp x.1).length) = _
  rw [List.length_map]
@[simp] theorem e_len_dT {ks : List (List Key)} {vs : List D} : lenS [.dT ks vs] = some (.int ks.length) := rfl
@[simp] theorem e_len_dK {ks : List Key} {vs : List D} : lenS [.dK ks vs] = some (.int ks.length) := rfl
theorem ent_eq (a b : Option Nat) : eqD (oN a) (oN b) = some (decide (a = b)) := by
  cases a <;> cases b
  · rfl
  · rfl
  · rfl
  · rename_i x y
    rw [show oN (some x) = nD x from rfl, show oN (some y) = nD y from rfl, eq_nat']
    simp
end Pd
set_option Elab.async false
set_option linter.all false
set_option maxRecDepth 100000
set_option maxHeartbeats 4000000
namespace Pd
open PySem L2
/-! ### try, held exceptions -/
def SR.ctch (r : SR) (k : Str → Pd.Env → SR) : SR := match r with
  | .ex y ρ => k y ρ
  | .nx ρ => .nx ρ
  | .bk ρ => .bk ρ
  | .ct ρ => .ct ρ
  | .rt d ρ => .rt d ρ
  | .no => .no
def SR.opt (o : Option Bool) (a b : SR) : SR := match o with
  | some true => a
  | some false => b
  | none => .no
@[simp] theorem e_opt_t {a b : SR} : SR.opt (some true) a b = a := rfl
@[simp] theorem e_opt_f {a b : SR} : SR.opt (some false) a b = b := rfl
@[simp] theorem e_ctch_ex {k : Str → Pd.Env → SR} {y : Str} {ρ : Pd.Env} : SR.ctch (.ex y ρ) k = k y ρ := rfl
@[simp] theorem e_ctch_nx {k : Str → Pd.Env → SR} {ρ : Pd.Env} : SR.ctch (.nx ρ) k = .nx ρ := rfl
@[simp] theorem e_ctch_bk {k : Str → Pd.Env → SR} {ρ : Pd.Env} : SR.ctch (.bk ρ) k = .bk ρ := rfl
@[simp] theorem e_ctch_ct {k : Str → Pd.Env → SR} {ρ : Pd.Env} : SR.ctch (.ct ρ) k = .ct ρ := rfl
@[simp] theorem e_ctch_rt {k : Str → Pd.Env → SR} {d : D} {ρ : Pd.Env} : SR.ctch (.rt d ρ) k = .rt d ρ := rfl
@[simp] theorem e_sTryAs {i : Nat} {ws : List Nat} {gb gs : Pd.Env → SR} {tk : Str → Option Bool} {ρ : Pd.Env} : sTryAs i ws gb gs tk ρ = SR.ctch (gb ρ) fun y ρ1 => SR.opt (tk y) (unSui i ws ρ1 (gs (ρ1.set i (some (.exc y))))) (.ex y ρ1) := by
  unfold sTryAs
  cases gb ρ with
  | ex y ρ1 =>
    show (match tk y with
      | some true => _
      | some false => _
      | none => _) = SR.opt (tk y) _ _
    cases tk y with
    | none => rfl
    | some b => cases b <;> rfl
  | _ => rfl
theorem unSui_nx {i : Nat} {ws : List Nat} {ρ1 ρ' : Pd.Env} (h : keptE i ws ρ1 ρ') : unSui i ws ρ1 (.nx ρ') = .nx (ρ'.set i none) := if_pos h
@[simp] theorem e_fIsX {i : Nat} {tb : Str → Option Bool} {ρ : Pd.Env} {y : Str} {b : Bool} (h : ρ[i]? = some (some (.exc y))) (hb : tb y = some b) : fIsX i tb ρ = .ok (.bl b) := by
  unfold fIsX
  rw [h]
  show (match tb y with
    | some b => R.ok (D.bl b)
    | none => .no) = _
  rw [hb]
@[simp] theorem e_dry_int {i : Int} : dryX (.int i) = true := rfl
@[simp] theorem e_dry_bl {i : Bool} : dryX (.bl i) = true := rfl
@[simp] theorem e_dry_str {i : Str} : dryX (.str i) = true := rfl
@[simp] theorem e_dry_non : dryX .non = true := rfl
@[simp] theorem e_dry_lst {xs : List D} : dryX (.lst xs) = dryXs xs := by rw [dryX]
@[simp] theorem e_dry_tup {xs : List D} : dryX (.tup xs) = dryXs xs := by rw [dryX]
@[simp] theorem e_drys_nil : dryXs [] = true := rfl
@[simp] theorem e_drys_cons {d : D} {ds : List D} : dryXs (d :: ds) = (dryX d && dryXs ds) := by rw [dryXs]
@[simp] theorem e_strS_str {x : Str} : strS [.str x] = some (.str x) := rfl
theorem e_strS_int {i : Int} (h0 : -BIGD < i) (h1 : i < BIGD) : strS [.int i] = some (.str (toString i)) := if_pos ⟨h0, h1⟩
end Pd
set_option Elab.async false
set_option linter.all false
set_option maxRecDepth 100000
set_option maxHeartbeats 1000000
namespace Pd
open PySem L2
open PySem.W (dataLt alike)
/-! ### own classes, told -/
@[simp] theorem e_sPutF {i : Nat} {fp : Env → R (List Nat)} {cl : List Str} {fn : Str} {fv : Env → R D} {ρ : Env} : sPutF i fp cl fn fv ρ = SR.st (fv ρ) (fun y => SR.pt ((fp ρ).bind fun p => (curD i ρ).bind fun d => ofO (((subP d p).bind fun e => setF cl fn e y).map fun e' => putP d p e')) (fun d' => .nx (ρ.set i (some d'))) ρ) ρ := rfl
@[simp] theorem e_fMeth {m : Str} {tb : Str → Option (List D → R D)} {dds : List D} {fo : Env → R D} {fs : Env → R (List D)} {ρ : Env} : fMeth m tb dds fo fs ρ = (fo ρ).bind fun d => mTb m tb dds d (fs ρ) := fMeth_eq
@[simp] theorem e_fMake {c : Str} {Fn : List D → MX} {dds : List D} {fs : Env → R (List D)} {ρ : Env} : fMake c Fn dds fs ρ = (fs ρ).bind fun ds => mkR (Fn (.ins c [] [] :: (ds ++ dds))) := rfl
@[simp] theorem e_fMakeK {c : Str} {Fn : List D → MX} {fs : Env → R (List D)} {fk : Env → R D} {ρ : Env} : fMakeK c Fn fs fk ρ = (fs ρ).bind fun ds => (fk ρ).bind fun d => mkR (Fn (.ins c [] [] :: (ds ++ [d]))) := rfl
@[simp] theorem e_mkR {e : D} {ρ : Env} : mkR (.ok .non (some e :: ρ)) = .ok e := rfl
@[simp] theorem e_mkRx {x : Str} {ρ : Env} : mkR (.exc x ρ) = .exc x := rfl
@[simp] theorem e_pFld {i : Nat} {fp : Env → R (List Nat)} {cl : List Str} {fn : Str} {ρ : Env} : pFld i fp cl fn ρ = (fp ρ).bind fun p => (curD i ρ).bind fun d => ofO (stepF cl fn d p) := rfl
/-! ### what is less, of costs -/
theorem le_cD (a b : C) : leD (cD a) (cD b) = some (!clt b a) := by
  have h : ltOk (cD a) (cD b) = true := by
    unfold ltOk
    rw [shal_cost a 11, shal_cost b 11, alike_cost a b]
    rfl
  have e : leD (cD a) (cD b) = if ltOk (cD a) (cD b) = true then some (!dataLt (toP (cD b)) (toP (cD a))) else none := rfl
  rw [e, if_pos h, lt_cost]
/-! ### sorted lists of pairs -/
def plt (p q : Pr) : Bool := decide (p.1 < q.1 ∨ (p.1 = q.1 ∧ p.2 < q.2))
def srtP (l : List Pr) : List Pr := l.mergeSort fun a b => !plt b a
theorem lt_pD (p q : Pr) : dataLt (toP (pD p)) (toP (pD q)) = plt p q := by
  have := lt_cost ((p.1 : Int), (p.2 : Int)) ((q.1 : Int), (q.2 : Int))
  have e : dataLt (toP (pD p)) (toP (pD q)) = clt ((p.1 : Int), (p.2 : Int)) ((q.1 : Int), (q.2 : Int)) := this
  rw [e]
  unfold clt plt
  congr 1
  simp only [Int.ofNat_lt, Int.ofNat_inj]
theorem alike_pD (p q : Pr) : alike (toP (pD p)) (toP (pD q)) = true := alike_cost ((p.1 : Int), (p.2 : Int)) ((q.1 : Int), (q.2 : Int))
theorem sortL_p (l : List Pr) : sortL (l.map pD) = (srtP l).map pD := by
  unfold sortL srtP
  rw [List.map_mergeSort]
  intro a _ b _
  rw [lt_pD]
theorem okSrt_p (l : List Pr) : okSrt (l.map pD) = true := by
  unfold okSrt
  simp only [Bool.and_eq_true, Bool.or_eq_true, List.all_eq_true]
  refine ⟨fun x hx => ?_, fun x hx y hy => ?_, .inl fun x hx => ?_⟩
  · obtain ⟨p, _, rfl⟩ := List.mem_map.mp hx
    exact ⟨by simp [pD, shal, shals], rfl⟩
  · obtain ⟨p, _, rfl⟩ := List.mem_map.mp hx
    obtain ⟨q, _, rfl⟩ := List.mem_map.mp hy
    exact alike_pD p q
  · obtain ⟨p, _, rfl⟩ := List.mem_map.mp hx
    rfl
theorem srtP_mem (l : List Pr) (p : Pr) : p ∈ srtP l ↔ p ∈ l := List.mem_mergeSort
theorem srtP_len (l : List Pr) : (srtP l).length = l.length := List.length_mergeSort _
theorem srt_lst (l : List Pr) : sortS [.lst (l.map pD)] = some (.lst ((srtP l).map pD)) := by
  have e : sortS [.lst (l.map pD)] = if okSrt (l.map pD) = true then some (.lst (sortL (l.map pD))) else none := rfl
  rw [e, if_pos (okSrt_p l), sortL_p]
theorem keys_p {β : Type} (l : List (Pr × β)) : (l.map fun x => kp x.1).map tkD = (alK l).map pD := by
  unfold alK
  rw [List.map_map, List.map_map]
  rfl
theorem srt_pA {β : Type} (em : β → D) (l : List (Pr × β)) : sortS [pA em l] = some (.lst ((srtP (alK l)).map pD)) := by
  have e : sortS [pA em l] = if okSrt ((l.map fun x => kp x.1).map tkD) = true then some (.lst (sortL ((l.map fun x => kp x.1).map tkD))) else none := rfl
  rw [e, keys_p, if_pos (okSrt_p _), sortL_p]
theorem lst_pA {β : Type} (em : β → D) (l : List (Pr × β)) : listdS [pA em l] = some (.lst ((alK l).map pD)) := by
  have e : listdS [pA em l] = some (.lst ((l.map fun x => kp x.1).map tkD)) := rfl
  rw [e, keys_p]
end Pd
set_option Elab.async false
set_option linter.all false
set_option maxRecDepth 100000
set_option maxHeartbeats 1000000
namespace Pd
open PySem L2
/-! ### the arcs that a ladder keeps -/
section
variable {n : Nat} {rs : List Rd}
noncomputable def kpb (o : Okm n rs) (ord : List Nat) (u w : Nat) : Bool := decide ((alG (acs rs ord) (u, w)).isSome = true ∧ alG (acs rs ord) (u, w) = ds o.toOk u w)
noncomputable def keptL (o : Okm n rs) (ord : List Nat) : List Pr := (List.range n).flatMap fun u => ((List.range n).filter (kpb o ord u)).map fun w => (u, w)
def mids (rs : List Rd) (ord : List Nat) : List (Pr × Option Nat) := ovr (mdl ord (alG (acs rs ord)) (alG (rcs rs))) (acs rs ord)
theorem mem_keptL (o : Okm n rs) (ord : List Nat) (p : Pr) : p ∈ keptL o ord ↔ p.1 < n ∧ p.2 < n ∧ kpb o ord p.1 p.2 = true := by
  unfold keptL
  simp only [List.mem_flatMap, List.mem_map, List.mem_filter, List.mem_range]
  constructor
  · rintro ⟨u, hu, w, ⟨hw, hk⟩, rfl⟩
    exact ⟨hu, hw, hk⟩
  · rintro ⟨h1, h2, h3⟩
    exact ⟨p.1, h1, p.2, ⟨h2, h3⟩, rfl⟩
theorem kpb_kp (o : Okm n rs) {ord : List Nat} (h : Ordr n ord) {u w : Nat} : kpb o ord u w = true ↔ ∃ c, u < n ∧ w < n ∧ Kp o.pos (rkF ord) u w c := by
  unfold kpb
  rw [decide_eq_true_iff]
  constructor
  · rintro ⟨h1, h2⟩
    obtain ⟨c, hc⟩ := Option.isSome_iff_exists.mp h1
    obtain ⟨r1, r2, r3⟩ := (acs_aok o h).get hc
    refine ⟨c, r1, r2, r3, ?_, ?_⟩
    · rw [← acs_get o h r1 r2 r3, hc]
    · rw [hc] at h2
      exact h2.symm
  · rintro ⟨c, r1, r2, r3, h1, h2⟩
    have e := acs_get o h r1 r2 r3
    rw [h1] at e
    exact ⟨by rw [e]; rfl, by rw [e]; exact h2.symm⟩
/-- an arc and the cost: the test of the program -/
theorem arc_le (o : Okm n rs) {ord : List Nat} (h : Ordr n ord) {u w : Nat} {c : C} (hc : alG (acs rs ord) (u, w) = some c) : ∃ d, ds o.toOk u w = some d ∧ (!clt d c) = kpb o ord u w := by
  obtain ⟨r1, r2, r3⟩ := (acs_aok o h).get hc
  have e := acs_get o h r1 r2 r3
  have ge := acO_ge o.pos (rkF ord) u w
  rw [← e, hc] at ge
  obtain ⟨d, hd, hle⟩ := ole_some ge
  refine ⟨d, hd, ?_⟩
  unfold kpb
  rw [hc, show ds o.toOk u w = some d from hd]
  by_cases q : c = d
  · subst q
    have : clt c c = false := by
      cases q : clt c c with
      | false => rfl
      | true => exact absurd (cle_refl c) (clt_iff.mp q)
    rw [this]
    simp
  · have : clt d c = true := clt_iff.mpr fun z => q (cle_anti z hle)
    rw [this]
    simp [q]
theorem keptL_len (o : Okm n rs) (ord : List Nat) : (keptL o ord).length ≤ n * n := by
  unfold keptL
  rw [List.length_flatMap]
  have : ∀ l : List Nat, (l.map fun u => (((List.range n).filter (kpb o ord u)).map fun w => ((u, w) : Pr)).length).sum ≤ l.length * n := by
    intro l
    induction l with
    | nil => simp
    | cons a l ih =>
      simp only [List.map_cons, List.sum_cons, List.length_cons, List.length_map] at ih ⊢
      have := List.length_filter_le (kpb o ord a) (List.range n)
      rw [List.length_range] at this
      rw [Nat.succ_mul]
      omega
  have := this (List.range n)
  rwa [List.length_range] at this
end
theorem Rk.ordr : ∀ {b : Bw} {left ord : List Nat}, Rk b left ord → left.Nodup → ord.Nodup ∧ ∀ x, x ∈ ord ↔ x ∈ left := by
  intro b left ord h
  induction h with
  | nil => exact fun _ => ⟨List.nodup_nil, fun x => Iff.rfl⟩
  | @cons b left p ord lt h ih =>
    intro nd
    obtain ⟨h1, h2⟩ := ih (nd.erase p)
    refine ⟨List.nodup_cons.mpr ⟨fun z => ?_, h1⟩, fun x => ?_⟩
    · exact ((List.Nodup.mem_erase_iff nd).mp ((h2 p).mp z)).1 rfl
    · rw [List.mem_cons, h2, List.Nodup.mem_erase_iff nd]
      constructor
      · rintro (rfl | ⟨_, z⟩)
        · exact lt.mem
        · exact z
      · intro z
        by_cases e : x = p
        · exact .inl e
        · exact .inr ⟨e, z⟩
theorem Rk.ordr' {b : Bw} {n : Nat} {ord : List Nat} (h : Rk b (List.range n) ord) : Ordr n ord :=
  let ⟨h1, h2⟩ := Rk.ordr h List.nodup_range
  ⟨h1, fun x => by rw [h2, List.mem_range]⟩
end Pd
set_option Elab.async false
set_option linter.all false
set_option maxRecDepth 100000
set_option maxHeartbeats 4000000
namespace Nl
open PySem PySem.Spec PyProof.Rows L2 Pd
noncomputable section
def fl_best : List Str := ["Ladder"]
def fl_inner : List Str := ["Ladder"]
def fl_laid : List Str := ["Ladder"]
def fl_land : List Str := ["Ladder"]
def fl_line : List Str := ["Ladder"]
def in_Ladder_1 (x0 : D) : D := .ins "Ladder" ["land"] [x0]
@[simp] theorem set_Ladder_1 (x0 : D) : setF fl_land "land" (.ins "Ladder" [] []) x0 = some (in_Ladder_1 x0) := rfl
@[simp] theorem get_Ladder_1_0 (x0 : D) : fldD fl_land "land" (in_Ladder_1 x0) = some x0 := rfl
def in_Ladder_2 (x0 x1 : D) : D := .ins "Ladder" ["land", "line"] [x0, x1]
@[simp] theorem set_Ladder_2 (x0 x1 : D) : setF fl_line "line" (in_Ladder_1 x0) x1 = some (in_Ladder_2 x0 x1) := rfl
@[simp] theorem get_Ladder_2_0 (x0 x1 : D) : fldD fl_land "land" (in_Ladder_2 x0 x1) = some x0 := rfl
@[simp] theorem get_Ladder_2_1 (x0 x1 : D) : fldD fl_line "line" (in_Ladder_2 x0 x1) = some x1 := rfl
def in_Ladder_3 (x0 x1 x2 : D) : D := .ins "Ladder" ["land", "line", "laid"] [x0, x1, x2]
@[simp] theorem set_Ladder_3 (x0 x1 x2 : D) : setF fl_laid "laid" (in_Ladder_2 x0 x1) x2 = some (in_Ladder_3 x0 x1 x2) := rfl
@[simp] theorem get_Ladder_3_0 (x0 x1 x2 : D) : fldD fl_land "land" (in_Ladder_3 x0 x1 x2) = some x0 := rfl
@[simp] theorem get_Ladder_3_1 (x0 x1 x2 : D) : fldD fl_line "line" (in_Ladder_3 x0 x1 x2) = some x1 := rfl
@[simp] theorem get_Ladder_3_2 (x0 x1 x2 : D) : fldD fl_laid "laid" (in_Ladder_3 x0 x1 x2) = some x2 := rfl
def in_Ladder_4 (x0 x1 x2 x3 : D) : D := .ins "Ladder" ["land", "line", "laid", "inner"] [x0, x1, x2, x3]
@[simp] theorem set_Ladder_4 (x0 x1 x2 x3 : D) : setF fl_inner "inner" (in_Ladder_3 x0 x1 x2) x3 = some (in_Ladder_4 x0 x1 x2 x3) := rfl
@[simp] theorem get_Ladder_4_0 (x0 x1 x2 x3 : D) : fldD fl_land "land" (in_Ladder_4 x0 x1 x2 x3) = some x0 := rfl
@[simp] theorem get_Ladder_4_1 (x0 x1 x2 x3 : D) : fldD fl_line "line" (in_Ladder_4 x0 x1 x2 x3) = some x1 := rfl
@[simp] theorem get_Ladder_4_2 (x0 x1 x2 x3 : D) : fldD fl_laid "laid" (in_Ladder_4 x0 x1 x2 x3) = some x2 := rfl
@[simp] theorem get_Ladder_4_3 (x0 x1 x2 x3 : D) : fldD fl_inner "inner" (in_Ladder_4 x0 x1 x2 x3) = some x3 := rfl
def in_Ladder (x0 x1 x2 x3 x4 : D) : D := .ins "Ladder" ["land", "line", "laid", "inner", "best"] [x0, x1, x2, x3, x4]
@[simp] theorem set_Ladder_5 (x0 x1 x2 x3 x4 : D) : setF fl_best "best" (in_Ladder_4 x0 x1 x2 x3) x4 = some (in_Ladder x0 x1 x2 x3 x4) := rfl
@[simp] theorem get_Ladder_5_0 (x0 x1 x2 x3 x4 : D) : fldD fl_land "land" (in_Ladder x0 x1 x2 x3 x4) = some x0 := rfl
@[simp] theorem get_Ladder_5_1 (x0 x1 x2 x3 x4 : D) : fldD fl_line "line" (in_Ladder x0 x1 x2 x3 x4) = some x1 := rfl
@[simp] theorem get_Ladder_5_2 (x0 x1 x2 x3 x4 : D) : fldD fl_laid "laid" (in_Ladder x0 x1 x2 x3 x4) = some x2 := rfl
@[simp] theorem get_Ladder_5_3 (x0 x1 x2 x3 x4 : D) : fldD fl_inner "inner" (in_Ladder x0 x1 x2 x3 x4) = some x3 := rfl
@[simp] theorem get_Ladder_5_4 (x0 x1 x2 x3 x4 : D) : fldD fl_best "best" (in_Ladder x0 x1 x2 x3 x4) = some x4 := rfl
def g_is_number : Pd.Env → SR :=
  (sRet (fAndV (f1 (isiD isInt) (fVar 0)) (fAndV (fNotV (f1 (isiD isBol) (fVar 0))) (fB (fChain leD ltD (fC (.int 0)) (fVar 0) (f2 powD (fC (.int 10)) (fC (.int 60))))))))
theorem cd_is_number (x0 : D) : callD 1 1 g_is_number [x0] = (g_is_number [some x0]).fin := callD_eq rfl
def g_is_length : Pd.Env → SR :=
  (sRet (fOrV (fB (f2 isD (fVar 0) (fC .non))) (fCall (callD 1 1 g_is_number) [] (fCons (fVar 0) fNil))))
theorem cd_is_length (x0 : D) : callD 1 1 g_is_length [x0] = (g_is_length [some x0]).fin := callD_eq rfl
def g_is_road : Pd.Env → SR :=
  (sSeq
  (sIf (tOrF (tNotF (fT (f1 (isiD isTup) (fVar 0)))) (f2 neD (fS lenS (fCons (fVar 0) fNil)) (fC (.int 4)))) (sRet (fC (.bl false))) sNil)
  (sSeq
  (sAsg (fVar 0) (tgTup 4 (tgCons (tgName 2) (tgCons (tgName 3) (tgCons (tgName 4) (tgCons (tgName 5) tgNil))))))
  (sSeq
  (sIf (tOrF (tNotF (fT (fCall (callD 1 1 g_is_number) [] (fCons (fVar 2) fNil)))) (tOrF (tNotF (fT (fCall (callD 1 1 g_is_number) [] (fCons (fVar 3) fNil)))) (tNotF (fT (fCall (callD 1 1 g_is_number) [] (fCons (fVar 5) fNil)))))) (sRet (fC (.bl false))) sNil)
  (sRet (fAndV (fB (f2 ltD (fVar 2) (fVar 1))) (fAndV (fB (f2 ltD (fVar 3) (fVar 1))) (fAndV (fB (f2 neD (fVar 2) (fVar 3))) (fCall (callD 1 1 g_is_length) [] (fCons (fVar 4) fNil)))))))))
theorem cd_is_road (x0 x1 : D) : callD 2 6 g_is_road [x0, x1] = (g_is_road [some x0, some x1, none, none, none, none]).fin := callD_eq rfl
def c_is_map_1 : Pd.Env → R D :=
  (fLc (fItm (fVar 2)) (tgName 3) tTrue (fCall (callD 2 6 g_is_road) [] (fCons (fVar 3) (fCons (fVar 1) fNil))) [3])
def g_is_map : Pd.Env → SR :=
  (sSeq
  (sIf (tOrF (tNotF (fT (f1 (isiD isTup) (fVar 0)))) (f2 neD (fS lenS (fCons (fVar 0) fNil)) (fC (.int 2)))) (sRet (fC (.bl false))) sNil)
  (sSeq
  (sAsg (fVar 0) (tgTup 2 (tgCons (tgName 1) (tgCons (tgName 2) tgNil))))
  (sSeq
  (sIf (tOrF (tNotF (fT (fCall (callD 1 1 g_is_number) [] (fCons (fVar 1) fNil)))) (tNotF (fChain leD leD (fC (.int 1)) (fVar 1) (fC (.int 16))))) (sRet (fC (.bl false))) sNil)
  (sSeq
  (sIf (tOrF (tNotF (fT (f1 (isiD isLst) (fVar 2)))) (f2 gtD (fS lenS (fCons (fVar 2) fNil)) (fC (.int 60)))) (sRet (fC (.bl false))) sNil)
  (sRet (fImm (fS allS (fCons c_is_map_1 fNil))))))))
theorem cd_is_map (x0 : D) : callD 1 4 g_is_map [x0] = (g_is_map [some x0, none, none, none]).fin := callD_eq rfl
def g_checked : Pd.Env → SR :=
  (sSeq
  (sIf (tNotF (fT (fCall (callD 1 4 g_is_map) [] (fCons (fVar 0) fNil)))) (sRaise "NoMap") sNil)
  (sRet (mkTup (fCons (fImm (f2 ixD (fVar 0) (fC (.int 0)))) (fCons (fFr (fS listS (fCons (f2 ixD (fVar 0) (fC (.int 1))) fNil))) fNil)))))
theorem cd_checked (x0 : D) : callD 1 1 g_checked [x0] = (g_checked [some x0]).fin := callD_eq rfl
def g_added : Pd.Env → SR :=
  (sSeq
  (sIf (tOrF (f2 isD (fVar 0) (fC .non)) (f2 isD (fVar 1) (fC .non))) (sRet (fC .non)) sNil)
  (sRet (mkTup (fCons (fImm (f2 addD (f2 ixD (fVar 0) (fC (.int 0))) (f2 ixD (fVar 1) (fC (.int 0))))) (fCons (fImm (f2 addD (f2 ixD (fVar 0) (fC (.int 1))) (f2 ixD (fVar 1) (fC (.int 1))))) fNil)))))
theorem cd_added (x0 x1 : D) : callD 2 2 g_added [x0, x1] = (g_added [some x0, some x1]).fin := callD_eq rfl
def c_least_1 : Pd.Env → R D :=
  (fLc (fItm (fVar 0)) (tgName 1) (f2 isnotD (fVar 1) (fC .non)) (fImm (fVar 1)) [1])
def g_least : Pd.Env → SR :=
  (sRet (fImm (f1 minDef c_least_1)))
theorem cd_least (x0 : D) : callD 1 2 g_least [x0] = (g_least [some x0, none]).fin := callD_eq rfl
def g_road_cost : Pd.Env → SR :=
  (sSeq
  (sIf (f2 isD (f2 ixD (fVar 0) (fC (.int 2))) (fC .non)) (sRet (fC .non)) sNil)
  (sRet (mkTup (fCons (fImm (f2 ixD (fVar 0) (fC (.int 2)))) (fCons (fC (.int 1)) fNil)))))
theorem cd_road_cost (x0 : D) : callD 1 1 g_road_cost [x0] = (g_road_cost [some x0]).fin := callD_eq rfl
def bd_road_costs_1 : Pd.Env → SR :=
  (sSeq
  (sSet 3 (fCall (callD 1 1 g_road_cost) [] (fCons (fVar 2) fNil)))
  (sSeq
  (sSet 4 (mkTup (fCons (f2 ixD (fVar 2) (fC (.int 0))) (fCons (f2 ixD (fVar 2) (fC (.int 1))) fNil))))
  (sIf (tAndF (f2 isnotD (fVar 3) (fC .non)) (tOrF (f2 notinD (fVar 4) (fVar 1)) (f2 ltD (fVar 3) (f2 ixD (fVar 1) (fVar 4))))) (sPut 1 (pRoot 1) (fVar 4) (fImm (fVar 3))) sNil)))
def l_road_costs_1 : Pd.Env → SR :=
  (sFor (fItm (f2 ixD (fVar 0) (fC (.int 1)))) (tgName 2) bd_road_costs_1)
def g_road_costs : Pd.Env → SR :=
  (sSeq
  (sSet 1 (fC (.dT [] [])))
  (sSeq
  l_road_costs_1
  (sRet (fVar 1))))
theorem cd_road_costs (x0 : D) : callD 1 5 g_road_costs [x0] = (g_road_costs [some x0, none, none, none, none]).fin := callD_eq rfl
def bd_over_1 : Pd.Env → SR :=
  (sIf (tAndF (f2 neD (fVar 3) (fVar 4)) (tAndF (f2 inD (mkTup (fCons (fVar 3) (fCons (fVar 2) fNil))) (fVar 0)) (f2 inD (mkTup (fCons (fVar 2) (fCons (fVar 4) fNil))) (fVar 0)))) (sSeq
  (sSet 5 (fCall (callD 2 2 g_added) [] (fCons (f2 ixD (fVar 0) (mkTup (fCons (fVar 3) (fCons (fVar 2) fNil)))) (fCons (f2 ixD (fVar 0) (mkTup (fCons (fVar 2) (fCons (fVar 4) fNil)))) fNil))))
  (sIf (tOrF (f2 notinD (mkTup (fCons (fVar 3) (fCons (fVar 4) fNil))) (fVar 0)) (f2 ltD (fVar 5) (f2 ixD (fVar 0) (mkTup (fCons (fVar 3) (fCons (fVar 4) fNil)))))) (sPut 0 (pRoot 0) (mkTup (fCons (fVar 3) (fCons (fVar 4) fNil))) (fImm (fVar 5))) sNil)) sNil)
def l_over_1 : Pd.Env → SR :=
  (sFor (fItm (fVar 1)) (tgName 4) bd_over_1)
def bd_over_2 : Pd.Env → SR :=
  l_over_1
def l_over_2 : Pd.Env → SR :=
  (sFor (fItm (fVar 1)) (tgName 3) bd_over_2)
def g_over : Pd.Env → SR :=
  l_over_2
theorem cd_over (x0 x1 x2 : D) : callM 3 6 g_over [x0, x1, x2] = (g_over [some x0, some x1, some x2, none, none, none]).finM := callM_eq rfl
def bd_arc_costs_1 : Pd.Env → SR :=
  (sExpM (fCallM (callM 3 6 g_over) 2 (pRoot 2) (fCons (fSl (fVar 1) (oSome (f2 addD (fVar 3) (fC (.int 1)))) oNo) (fCons (fVar 4) fNil))))
def l_arc_costs_1 : Pd.Env → SR :=
  (sFor (fEnum (fVar 1)) (tgTup 2 (tgCons (tgName 3) (tgCons (tgName 4) tgNil))) bd_arc_costs_1)
def g_arc_costs : Pd.Env → SR :=
  (sSeq
  (sSet 2 (fCall (callD 1 5 g_road_costs) [] (fCons (fVar 0) fNil)))
  (sSeq
  l_arc_costs_1
  (sRet (fVar 2))))
theorem cd_arc_costs (x0 x1 : D) : callD 2 5 g_arc_costs [x0, x1] = (g_arc_costs [some x0, some x1, none, none, none]).fin := callD_eq rfl
def bd_middle_of_1 : Pd.Env → SR :=
  (sIf (tAndF (f2 inD (mkTup (fCons (f2 ixD (fVar 1) (fC (.int 0))) (fCons (fVar 3) fNil))) (fVar 0)) (f2 inD (mkTup (fCons (fVar 3) (fCons (f2 ixD (fVar 1) (fC (.int 1))) fNil))) (fVar 0))) (sIf (f2 eqD (fCall (callD 2 2 g_added) [] (fCons (f2 ixD (fVar 0) (mkTup (fCons (f2 ixD (fVar 1) (fC (.int 0))) (fCons (fVar 3) fNil)))) (fCons (f2 ixD (fVar 0) (mkTup (fCons (fVar 3) (fCons (f2 ixD (fVar 1) (fC (.int 1))) fNil)))) fNil))) (f2 ixD (fVar 0) (fVar 1))) (sRet (fImm (fVar 3))) sNil) sNil)
def l_middle_of_1 : Pd.Env → SR :=
  (sFor (fItm (fVar 2)) (tgName 3) bd_middle_of_1)
def g_middle_of : Pd.Env → SR :=
  (sSeq
  l_middle_of_1
  (sRet (fC .non)))
theorem cd_middle_of (x0 x1 x2 : D) : callD 3 4 g_middle_of [x0, x1, x2] = (g_middle_of [some x0, some x1, some x2, none]).fin := callD_eq rfl
def bd_middles_1 : Pd.Env → SR :=
  (sIf (f2 eqD (fGet (fVar 3) (fVar 5)) (f2 ixD (fVar 2) (fVar 5))) (sPut 4 (pRoot 4) (fVar 5) (fC .non)) (sSeq
  (sSet 6 (fSl (fVar 1) oNo (oSome (fS minS (fCons (fIdx (fVar 1) (f2 ixD (fVar 5) (fC (.int 0)))) (fCons (fIdx (fVar 1) (f2 ixD (fVar 5) (fC (.int 1)))) fNil))))))
  (sPut 4 (pRoot 4) (fVar 5) (fCall (callD 3 4 g_middle_of) [] (fCons (fVar 2) (fCons (fVar 5) (fCons (fVar 6) fNil)))))))
def l_middles_1 : Pd.Env → SR :=
  (sForK keysD 2 (tgName 5) bd_middles_1)
def g_middles : Pd.Env → SR :=
  (sSeq
  (sSet 2 (fCall (callD 2 5 g_arc_costs) [] (fCons (fVar 0) (fCons (fVar 1) fNil))))
  (sSeq
  (sSet 3 (fCall (callD 1 5 g_road_costs) [] (fCons (fVar 0) fNil)))
  (sSeq
  (sSet 4 (fC (.dT [] [])))
  (sSeq
  l_middles_1
  (sRet (fVar 4))))))
theorem cd_middles (x0 x1 : D) : callD 2 7 g_middles [x0, x1] = (g_middles [some x0, some x1, none, none, none, none, none]).fin := callD_eq rfl
def g_is_place : Pd.Env → SR :=
  (sRet (fAndV (f1 (isiD isInt) (fVar 1)) (fAndV (fNotV (f1 (isiD isBol) (fVar 1))) (fB (fChain leD ltD (fC (.int 0)) (fVar 1) (f2 ixD (fVar 0) (fC (.int 0))))))))
theorem cd_is_place (x0 x1 : D) : callD 2 2 g_is_place [x0, x1] = (g_is_place [some x0, some x1]).fin := callD_eq rfl
def bd_checked_order_1 : Pd.Env → SR :=
  (sSeq
  (sIf (tOrF (tNotF (fT (fCall (callD 2 2 g_is_place) [] (fCons (fVar 0) (fCons (fVar 3) fNil))))) (f2 inD (fVar 3) (fVar 2))) (sRaise "NoOrder") sNil)
  (sOp 2 (pRoot 2) (fCons (fImm (fVar 3)) fNil) appS))
def l_checked_order_1 : Pd.Env → SR :=
  (sFor (fItm (fVar 1)) (tgName 3) bd_checked_order_1)
def g_checked_order : Pd.Env → SR :=
  (sSeq
  (sIf (tOrF (tNotF (fT (f1 (isiD isLst) (fVar 1)))) (f2 neD (fS lenS (fCons (fVar 1) fNil)) (f2 ixD (fVar 0) (fC (.int 0))))) (sRaise "NoOrder") sNil)
  (sSeq
  (sSet 2 (mkLst fNil))
  (sSeq
  l_checked_order_1
  (sRet (fVar 2)))))
theorem cd_checked_order (x0 x1 : D) : callD 2 4 g_checked_order [x0, x1] = (g_checked_order [some x0, some x1, none, none]).fin := callD_eq rfl
def bd_bows_of_1 : Pd.Env → SR :=
  (sIf (f2 isnotD (f2 ixD (fVar 2) (fC (.int 2))) (fC .non)) (sPut 1 (pRoot 1) (mkTup (fCons (f2 ixD (fVar 2) (fC (.int 0))) (fCons (f2 ixD (fVar 2) (fC (.int 1))) fNil))) (fC (.bl true))) sNil)
def l_bows_of_1 : Pd.Env → SR :=
  (sFor (fItm (f2 ixD (fVar 0) (fC (.int 1)))) (tgName 2) bd_bows_of_1)
def g_bows_of : Pd.Env → SR :=
  (sSeq
  (sSet 1 (fC (.dT [] [])))
  (sSeq
  l_bows_of_1
  (sRet (fVar 1))))
theorem cd_bows_of (x0 : D) : callD 1 3 g_bows_of [x0] = (g_bows_of [some x0, none, none]).fin := callD_eq rfl
def bd_lacking_1 : Pd.Env → SR :=
  (sIf (tAndF (f2 neD (fVar 4) (fVar 5)) (tAndF (f2 neD (fVar 4) (fVar 2)) (tAndF (f2 neD (fVar 5) (fVar 2)) (f2 notinD (mkTup (fCons (fVar 4) (fCons (fVar 5) fNil))) (fVar 0))))) (sIf (tAndF (f2 inD (mkTup (fCons (fVar 4) (fCons (fVar 2) fNil))) (fVar 0)) (f2 inD (mkTup (fCons (fVar 2) (fCons (fVar 5) fNil))) (fVar 0))) (sOp 3 (pRoot 3) (fCons (mkTup (fCons (fImm (fVar 4)) (fCons (fImm (fVar 5)) fNil))) fNil) appS) sNil) sNil)
def l_lacking_1 : Pd.Env → SR :=
  (sFor (fItm (fVar 1)) (tgName 5) bd_lacking_1)
def bd_lacking_2 : Pd.Env → SR :=
  l_lacking_1
def l_lacking_2 : Pd.Env → SR :=
  (sFor (fItm (fVar 1)) (tgName 4) bd_lacking_2)
def g_lacking : Pd.Env → SR :=
  (sSeq
  (sSet 3 (mkLst fNil))
  (sSeq
  l_lacking_2
  (sRet (fVar 3))))
theorem cd_lacking (x0 x1 x2 : D) : callD 3 6 g_lacking [x0, x1, x2] = (g_lacking [some x0, some x1, some x2, none, none, none]).fin := callD_eq rfl
def c_ranked_1 : Pd.Env → R D :=
  (fLc (fImI (fItm (fVar 2))) (tgName 5) tTrue (fImm (fS lenS (fCons (fCall (callD 3 6 g_lacking) [] (fCons (fVar 1) (fCons (fVar 2) (fCons (fVar 5) fNil)))) fNil))) [5])
def bd_ranked_1 : Pd.Env → SR :=
  (sPut 1 (pRoot 1) (fVar 7) (fC (.bl true)))
def l_ranked_1 : Pd.Env → SR :=
  (sFor (fItm (fCall (callD 3 6 g_lacking) [] (fCons (fVar 1) (fCons (fVar 2) (fCons (fVar 6) fNil))))) (tgName 7) bd_ranked_1)
def bd_ranked_2 : Pd.Env → SR :=
  (sSeq
  (sSet 4 c_ranked_1)
  (sSeq
  (sSet 6 (fImm (f2 ixD (fVar 2) (fIdx (fVar 4) (fS minS (fCons (fVar 4) fNil))))))
  (sSeq
  l_ranked_1
  (sSeq
  (sOp 2 (pRoot 2) (fCons (fImm (fVar 6)) fNil) remS)
  (sOp 3 (pRoot 3) (fCons (fImm (fVar 6)) fNil) appS)))))
def l_ranked_2 : Pd.Env → SR :=
  (sWhile 1000 (f2 gtD (fS lenS (fCons (fVar 2) fNil)) (fC (.int 0))) bd_ranked_2)
def g_ranked : Pd.Env → SR :=
  (sSeq
  (sSet 1 (fCall (callD 1 3 g_bows_of) [] (fCons (fVar 0) fNil)))
  (sSeq
  (sSet 2 (fLRange (f2 ixD (fVar 0) (fC (.int 0)))))
  (sSeq
  (sSet 3 (mkLst fNil))
  (sSeq
  l_ranked_2
  (sRet (fVar 3))))))
theorem cd_ranked (x0 : D) : callD 1 8 g_ranked [x0] = (g_ranked [some x0, none, none, none, none, none, none, none]).fin := callD_eq rfl
def bd_costs_from_1 : Pd.Env → SR :=
  (sSeq
  (sSet 5 (fCall (callD 1 2 g_least) [] (fCons (mkLst (fCons (f2 ixD (fVar 2) (f2 ixD (fVar 4) (fC (.int 1)))) (fCons (fCall (callD 2 2 g_added) [] (fCons (f2 ixD (fVar 2) (f2 ixD (fVar 4) (fC (.int 0)))) (fCons (fCall (callD 1 1 g_road_cost) [] (fCons (fVar 4) fNil)) fNil))) fNil))) fNil)))
  (sIf (f2 neD (fVar 5) (f2 ixD (fVar 2) (f2 ixD (fVar 4) (fC (.int 1))))) (sSeq
  (sPut 2 (pRoot 2) (f2 ixD (fVar 4) (fC (.int 1))) (fImm (fVar 5)))
  (sSet 3 (fC (.bl true)))) sNil))
def l_costs_from_1 : Pd.Env → SR :=
  (sFor (fItm (f2 ixD (fVar 0) (fC (.int 1)))) (tgName 4) bd_costs_from_1)
def bd_costs_from_2 : Pd.Env → SR :=
  (sSeq
  (sSet 3 (fC (.bl false)))
  l_costs_from_1)
def l_costs_from_2 : Pd.Env → SR :=
  (sWhile 1000 (fT (fVar 3)) bd_costs_from_2)
def g_costs_from : Pd.Env → SR :=
  (sSeq
  (sSet 2 (fFr (f2 mulD (mkLst (fCons (fC .non) fNil)) (f2 ixD (fVar 0) (fC (.int 0))))))
  (sSeq
  (sPut 2 (pRoot 2) (fVar 1) (mkTup (fCons (fC (.int 0)) (fCons (fC (.int 0)) fNil))))
  (sSeq
  (sSet 3 (fC (.bl true)))
  (sSeq
  l_costs_from_2
  (sRet (fVar 2))))))
theorem cd_costs_from (x0 x1 : D) : callD 2 6 g_costs_from [x0, x1] = (g_costs_from [some x0, some x1, none, none, none, none]).fin := callD_eq rfl
def bd_Ladder_found_best_1 : Pd.Env → SR :=
  (sIf (tAndF (f2 inD (mkTup (fCons (fVar 2) (fCons (fVar 4) fNil))) (f1 (fldD fl_laid "laid") (fVar 0))) (f2 leD (f2 ixD (f1 (fldD fl_laid "laid") (fVar 0)) (mkTup (fCons (fVar 2) (fCons (fVar 4) fNil)))) (f2 ixD (fVar 3) (fVar 4)))) (sOp 1 (pRoot 1) (fCons (mkTup (fCons (fImm (fVar 2)) (fCons (fImm (fVar 4)) fNil))) fNil) appS) sNil)
def l_Ladder_found_best_1 : Pd.Env → SR :=
  (sFor (fRange (f2 ixD (f1 (fldD fl_land "land") (fVar 0)) (fC (.int 0)))) (tgName 4) bd_Ladder_found_best_1)
def bd_Ladder_found_best_2 : Pd.Env → SR :=
  (sSeq
  (sSet 3 (fCall (callD 2 6 g_costs_from) [] (fCons (f1 (fldD fl_land "land") (fVar 0)) (fCons (fVar 2) fNil))))
  l_Ladder_found_best_1)
def l_Ladder_found_best_2 : Pd.Env → SR :=
  (sFor (fRange (f2 ixD (f1 (fldD fl_land "land") (fVar 0)) (fC (.int 0)))) (tgName 2) bd_Ladder_found_best_2)
def g_Ladder_found_best : Pd.Env → SR :=
  (sSeq
  (sSet 1 (mkLst fNil))
  (sSeq
  l_Ladder_found_best_2
  (sRet (fVar 1))))
theorem cd_Ladder_found_best (x0 : D) : callD 1 5 g_Ladder_found_best [x0] = (g_Ladder_found_best [some x0, none, none, none, none]).fin := callD_eq rfl
def tb_Ladder_found_best : Str → Option (List D → R D) := (tbc "Ladder" (callD 1 5 g_Ladder_found_best) tb0)
@[simp] theorem tb_Ladder_found_best_Ladder_1 {x0 : D} {dds : List D} {r : R (List D)} : mTb "found_best" tb_Ladder_found_best dds (in_Ladder_1 x0) r = r.bind fun ds => (callD 1 5 g_Ladder_found_best) (in_Ladder_1 x0 :: (ds ++ dds)) := rfl
@[simp] theorem tb_Ladder_found_best_Ladder_2 {x0 x1 : D} {dds : List D} {r : R (List D)} : mTb "found_best" tb_Ladder_found_best dds (in_Ladder_2 x0 x1) r = r.bind fun ds => (callD 1 5 g_Ladder_found_best) (in_Ladder_2 x0 x1 :: (ds ++ dds)) := rfl
@[simp] theorem tb_Ladder_found_best_Ladder_3 {x0 x1 x2 : D} {dds : List D} {r : R (List D)} : mTb "found_best" tb_Ladder_found_best dds (in_Ladder_3 x0 x1 x2) r = r.bind fun ds => (callD 1 5 g_Ladder_found_best) (in_Ladder_3 x0 x1 x2 :: (ds ++ dds)) := rfl
@[simp] theorem tb_Ladder_found_best_Ladder_4 {x0 x1 x2 x3 : D} {dds : List D} {r : R (List D)} : mTb "found_best" tb_Ladder_found_best dds (in_Ladder_4 x0 x1 x2 x3) r = r.bind fun ds => (callD 1 5 g_Ladder_found_best) (in_Ladder_4 x0 x1 x2 x3 :: (ds ++ dds)) := rfl
@[simp] theorem tb_Ladder_found_best_Ladder_5 {x0 x1 x2 x3 x4 : D} {dds : List D} {r : R (List D)} : mTb "found_best" tb_Ladder_found_best dds (in_Ladder x0 x1 x2 x3 x4) r = r.bind fun ds => (callD 1 5 g_Ladder_found_best) (in_Ladder x0 x1 x2 x3 x4 :: (ds ++ dds)) := rfl
def g_Ladder___init__ : Pd.Env → SR :=
  (sSeq
  (sPutF 0 (pRoot 0) fl_land "land" (fCall (callD 1 1 g_checked) [] (fCons (fVar 1) fNil)))
  (sSeq
  (sIf (f2 isD (fVar 2) (fC .non)) (sPutF 0 (pRoot 0) fl_line "line" (fCall (callD 1 8 g_ranked) [] (fCons (f1 (fldD fl_land "land") (fVar 0)) fNil))) (sPutF 0 (pRoot 0) fl_line "line" (fCall (callD 2 4 g_checked_order) [] (fCons (f1 (fldD fl_land "land") (fVar 0)) (fCons (fVar 2) fNil)))))
  (sSeq
  (sPutF 0 (pRoot 0) fl_laid "laid" (fCall (callD 2 5 g_arc_costs) [] (fCons (f1 (fldD fl_land "land") (fVar 0)) (fCons (f1 (fldD fl_line "line") (fVar 0)) fNil))))
  (sSeq
  (sPutF 0 (pRoot 0) fl_inner "inner" (fCall (callD 2 7 g_middles) [] (fCons (f1 (fldD fl_land "land") (fVar 0)) (fCons (f1 (fldD fl_line "line") (fVar 0)) fNil))))
  (sPutF 0 (pRoot 0) fl_best "best" (fMeth "found_best" tb_Ladder_found_best [] (fVar 0) fNil))))))
theorem cd_Ladder___init__ (x0 x1 x2 : D) : callM 3 3 g_Ladder___init__ [x0, x1, x2] = (g_Ladder___init__ [some x0, some x1, some x2]).finM := callM_eq rfl
def g_Ladder_told_map : Pd.Env → SR :=
  (sRet (mkTup (fCons (fImm (f2 ixD (f1 (fldD fl_land "land") (fVar 0)) (fC (.int 0)))) (fCons (fFr (fS listS (fCons (f2 ixD (f1 (fldD fl_land "land") (fVar 0)) (fC (.int 1))) fNil))) fNil))))
theorem cd_Ladder_told_map (x0 : D) : callD 1 1 g_Ladder_told_map [x0] = (g_Ladder_told_map [some x0]).fin := callD_eq rfl
def g_Ladder_order : Pd.Env → SR :=
  (sRet (fFr (fS listS (fCons (f1 (fldD fl_line "line") (fVar 0)) fNil))))
theorem cd_Ladder_order (x0 : D) : callD 1 1 g_Ladder_order [x0] = (g_Ladder_order [some x0]).fin := callD_eq rfl
def g_Ladder_arcs : Pd.Env → SR :=
  (sRet (fS sortS (fCons (f1 (fldD fl_laid "laid") (fVar 0)) fNil)))
theorem cd_Ladder_arcs (x0 : D) : callD 1 1 g_Ladder_arcs [x0] = (g_Ladder_arcs [some x0]).fin := callD_eq rfl
def g_Ladder_arc : Pd.Env → SR :=
  (sSeq
  (sIf (tOrF (tNotF (fT (fCall (callD 2 2 g_is_place) [] (fCons (f1 (fldD fl_land "land") (fVar 0)) (fCons (fVar 1) fNil))))) (tOrF (tNotF (fT (fCall (callD 2 2 g_is_place) [] (fCons (f1 (fldD fl_land "land") (fVar 0)) (fCons (fVar 2) fNil))))) (f2 notinD (mkTup (fCons (fVar 1) (fCons (fVar 2) fNil))) (f1 (fldD fl_laid "laid") (fVar 0))))) (sRaise "NoArc") sNil)
  (sRet (mkTup (fCons (fImm (fVar 1)) (fCons (fImm (fVar 2)) fNil)))))
theorem cd_Ladder_arc (x0 x1 x2 : D) : callD 3 3 g_Ladder_arc [x0, x1, x2] = (g_Ladder_arc [some x0, some x1, some x2]).fin := callD_eq rfl
def tb_Ladder_arc : Str → Option (List D → R D) := (tbc "Ladder" (callD 3 3 g_Ladder_arc) tb0)
@[simp] theorem tb_Ladder_arc_Ladder_5 {x0 x1 x2 x3 x4 : D} {dds : List D} {r : R (List D)} : mTb "arc" tb_Ladder_arc dds (in_Ladder x0 x1 x2 x3 x4) r = r.bind fun ds => (callD 3 3 g_Ladder_arc) (in_Ladder x0 x1 x2 x3 x4 :: (ds ++ dds)) := rfl
def g_Ladder_cost : Pd.Env → SR :=
  (sRet (fImm (f2 ixD (f1 (fldD fl_laid "laid") (fVar 0)) (fMeth "arc" tb_Ladder_arc [] (fVar 0) (fCons (fVar 1) (fCons (fVar 2) fNil))))))
theorem cd_Ladder_cost (x0 x1 x2 : D) : callD 3 3 g_Ladder_cost [x0, x1, x2] = (g_Ladder_cost [some x0, some x1, some x2]).fin := callD_eq rfl
def g_Ladder_middle : Pd.Env → SR :=
  (sRet (fImm (f2 ixD (f1 (fldD fl_inner "inner") (fVar 0)) (fMeth "arc" tb_Ladder_arc [] (fVar 0) (fCons (fVar 1) (fCons (fVar 2) fNil))))))
theorem cd_Ladder_middle (x0 x1 x2 : D) : callD 3 3 g_Ladder_middle [x0, x1, x2] = (g_Ladder_middle [some x0, some x1, some x2]).fin := callD_eq rfl
def g__law_mixed : Pd.Env → SR :=
  (sSeq
  (sSet 2 (fImm (f2 modD (f2 addD (f2 modD (fVar 0) (fC (.int 2147483629))) (f2 mulD (fC (.int 48271)) (f2 addD (fVar 1) (fC (.int 1))))) (fC (.int 2147483647)))))
  (sSeq
  (sSet 2 (fImm (f2 modD (f2 addD (f2 addD (f2 mulD (fVar 2) (fVar 2)) (f2 mulD (fC (.int 69621)) (fVar 1))) (fC (.int 7))) (fC (.int 2147483587)))))
  (sRet (fImm (f2 modD (f2 mulD (fVar 2) (fVar 2)) (fC (.int 2147483579)))))))
theorem cd__law_mixed (x0 x1 : D) : callD 2 3 g__law_mixed [x0, x1] = (g__law_mixed [some x0, some x1, none]).fin := callD_eq rfl
def g__law_road : Pd.Env → SR :=
  (sSeq
  (sSet 2 (fCall (callD 2 3 g__law_mixed) [] (fCons (fVar 0) (fCons (fC (.int 1)) fNil))))
  (sSeq
  (sSet 3 (fImm (f2 modD (fVar 2) (fVar 1))))
  (sSeq
  (sSet 4 (fImm (f2 modD (f2 addD (f2 addD (fVar 3) (fC (.int 1))) (f2 modD (f2 divD (fVar 2) (fC (.int 16))) (f2 subD (fVar 1) (fC (.int 1))))) (fVar 1))))
  (sSeq
  (sSet 5 (fImm (f2 modD (f2 divD (fVar 2) (fC (.int 256))) (fC (.int 6)))))
  (sSeq
  (sSet 6 (fImm (f2 modD (f2 divD (fVar 2) (fC (.int 1536))) (fC (.int 4)))))
  (sSeq
  (sIf (f2 eqD (fVar 5) (fC (.int 0))) (sSet 6 (fC .non)) sNil)
  (sSeq
  (sIf (f2 eqD (fVar 5) (fC (.int 1))) (sSet 6 (fImm (f2 modD (fVar 0) (f2 powD (fC (.int 10)) (fC (.int 60)))))) sNil)
  (sSeq
  (sIf (f2 eqD (fVar 5) (fC (.int 2))) (sSet 6 (fImm (f2 modD (f2 divD (fVar 2) (fC (.int 1536))) (fC (.int 101))))) sNil)
  (sRet (mkTup (fCons (fImm (fVar 3)) (fCons (fImm (fVar 4)) (fCons (fImm (fVar 6)) (fCons (fImm (f2 modD (fCall (callD 2 3 g__law_mixed) [] (fCons (fVar 0) (fCons (fC (.int 2)) fNil))) (f2 ixD (mkLst (fCons (fC (.int 5)) (fCons (f2 powD (fC (.int 10)) (fC (.int 60))) fNil))) (f2 modD (fVar 0) (fC (.int 2)))))) fNil))))))))))))))
theorem cd__law_road (x0 x1 : D) : callD 2 7 g__law_road [x0, x1] = (g__law_road [some x0, some x1, none, none, none, none, none]).fin := callD_eq rfl
def c__law_map_1 : Pd.Env → R D :=
  (fLc (fItm (fSl (fVar 0) (oSome (fC (.int 1))) (oSome (fC (.int 25))))) (tgName 5) tTrue (fCall (callD 2 7 g__law_road) [] (fCons (fVar 5) (fCons (fVar 3) fNil))) [5])
def g__law_map : Pd.Env → SR :=
  (sSeq
  (sSet 2 (fImm (fS sumS (fCons (fSl (fVar 0) oNo (oSome (fC (.int 1)))) fNil))))
  (sSeq
  (sSet 3 (fImm (f2 addD (fC (.int 1)) (f2 modD (fVar 2) (fVar 1)))))
  (sSeq
  (sSet 4 (mkLst fNil))
  (sSeq
  (sIf (f2 gtD (fVar 3) (fC (.int 1))) (sSet 4 c__law_map_1) sNil)
  (sRet (mkTup (fCons (fImm (fVar 3)) (fCons (fVar 4) fNil))))))))
theorem cd__law_map (x0 x1 : D) : callD 2 6 g__law_map [x0, x1] = (g__law_map [some x0, some x1, none, none, none, none]).fin := callD_eq rfl
def bd__law_order_1 : Pd.Env → SR :=
  (sOp 2 (pRoot 2) (fCons (fImm (f2 modD (fCall (callD 2 3 g__law_mixed) [] (fCons (fVar 1) (fCons (fVar 3) fNil))) (f2 addD (fVar 3) (fC (.int 1))))) (fCons (fImm (fVar 3)) fNil)) insS)
def l__law_order_1 : Pd.Env → SR :=
  (sFor (fRange (fVar 0)) (tgName 3) bd__law_order_1)
def g__law_order : Pd.Env → SR :=
  (sSeq
  (sSet 2 (mkLst fNil))
  (sSeq
  l__law_order_1
  (sRet (fVar 2))))
theorem cd__law_order (x0 x1 : D) : callD 2 4 g__law_order [x0, x1] = (g__law_order [some x0, some x1, none, none]).fin := callD_eq rfl
def tb_Ladder_order : Str → Option (List D → R D) := (tbc "Ladder" (callD 1 1 g_Ladder_order) tb0)
@[simp] theorem tb_Ladder_order_Ladder_5 {x0 x1 x2 x3 x4 : D} {dds : List D} {r : R (List D)} : mTb "order" tb_Ladder_order dds (in_Ladder x0 x1 x2 x3 x4) r = r.bind fun ds => (callD 1 1 g_Ladder_order) (in_Ladder x0 x1 x2 x3 x4 :: (ds ++ dds)) := rfl
def tb_Ladder_arcs : Str → Option (List D → R D) := (tbc "Ladder" (callD 1 1 g_Ladder_arcs) tb0)
@[simp] theorem tb_Ladder_arcs_Ladder_5 {x0 x1 x2 x3 x4 : D} {dds : List D} {r : R (List D)} : mTb "arcs" tb_Ladder_arcs dds (in_Ladder x0 x1 x2 x3 x4) r = r.bind fun ds => (callD 1 1 g_Ladder_arcs) (in_Ladder x0 x1 x2 x3 x4 :: (ds ++ dds)) := rfl
def tb_Ladder_middle : Str → Option (List D → R D) := (tbc "Ladder" (callD 3 3 g_Ladder_middle) tb0)
@[simp] theorem tb_Ladder_middle_Ladder_5 {x0 x1 x2 x3 x4 : D} {dds : List D} {r : R (List D)} : mTb "middle" tb_Ladder_middle dds (in_Ladder x0 x1 x2 x3 x4) r = r.bind fun ds => (callD 3 3 g_Ladder_middle) (in_Ladder x0 x1 x2 x3 x4 :: (ds ++ dds)) := rfl
def tb_Ladder_cost : Str → Option (List D → R D) := (tbc "Ladder" (callD 3 3 g_Ladder_cost) tb0)
@[simp] theorem tb_Ladder_cost_Ladder_5 {x0 x1 x2 x3 x4 : D} {dds : List D} {r : R (List D)} : mTb "cost" tb_Ladder_cost dds (in_Ladder x0 x1 x2 x3 x4) r = r.bind fun ds => (callD 3 3 g_Ladder_cost) (in_Ladder x0 x1 x2 x3 x4 :: (ds ++ dds)) := rfl
def tb_Ladder_told_map : Str → Option (List D → R D) := (tbc "Ladder" (callD 1 1 g_Ladder_told_map) tb0)
@[simp] theorem tb_Ladder_told_map_Ladder_5 {x0 x1 x2 x3 x4 : D} {dds : List D} {r : R (List D)} : mTb "told_map" tb_Ladder_told_map dds (in_Ladder x0 x1 x2 x3 x4) r = r.bind fun ds => (callD 1 1 g_Ladder_told_map) (in_Ladder x0 x1 x2 x3 x4 :: (ds ++ dds)) := rfl
def bd__law_told_1 : Pd.Env → SR :=
  (sIf (tOrF (f2 neD (fMeth "cost" tb_Ladder_cost [] (fVar 0) (fCons (fVar 7) (fCons (fVar 8) fNil))) (f2 ixD (fVar 4) (mkTup (fCons (fVar 7) (fCons (fVar 8) fNil))))) (f2 neD (fMeth "middle" tb_Ladder_middle [] (fVar 0) (fCons (fVar 7) (fCons (fVar 8) fNil))) (f2 ixD (fVar 5) (mkTup (fCons (fVar 7) (fCons (fVar 8) fNil)))))) (sRet (fC (.bl false))) sNil)
def l__law_told_1 : Pd.Env → SR :=
  (sForM 6 (tgTup 2 (tgCons (tgName 7) (tgCons (tgName 8) tgNil))) bd__law_told_1)
def g__law_told : Pd.Env → SR :=
  (sSeq
  (sIf (tAndF (fT (fVar 3)) (f2 neD (fMeth "order" tb_Ladder_order [] (fVar 0) fNil) (fVar 2))) (sRet (fC (.bl false))) sNil)
  (sSeq
  (sSet 4 (fCall (callD 2 5 g_arc_costs) [] (fCons (mkTup (fCons (f2 ixD (fVar 1) (fC (.int 0))) (fCons (fS listS (fCons (f2 ixD (fVar 1) (fC (.int 1))) fNil)) fNil))) (fCons (fS listS (fCons (fVar 2) fNil)) fNil))))
  (sSeq
  (sSet 5 (fCall (callD 2 7 g_middles) [] (fCons (mkTup (fCons (f2 ixD (fVar 1) (fC (.int 0))) (fCons (fS listS (fCons (f2 ixD (fVar 1) (fC (.int 1))) fNil)) fNil))) (fCons (fS listS (fCons (fVar 2) fNil)) fNil))))
  (sSeq
  (sSet 6 (fMeth "arcs" tb_Ladder_arcs [] (fVar 0) fNil))
  (sSeq
  (sIf (tOrF (tNotF (fT (f1 (isiD isLst) (fVar 6)))) (f2 neD (fVar 6) (fS sortS (fCons (fS listdS (fCons (fVar 4) fNil)) fNil)))) (sRet (fC (.bl false))) sNil)
  (sSeq
  l__law_told_1
  (sSeq
  (sOp 6 (pRoot 6) fNil clrS)
  (sSeq
  (sSet 9 (fMeth "told_map" tb_Ladder_told_map [] (fVar 0) fNil))
  (sSeq
  (sIf (tOrF (tNotF (fT (f1 (isiD isTup) (fVar 9)))) (tOrF (f2 neD (fVar 9) (fVar 1)) (tNotF (fT (f1 (isiD isLst) (f2 ixD (fVar 9) (fC (.int 1)))))))) (sRet (fC (.bl false))) sNil)
  (sSeq
  (sOp 9 (pIx 9 (pRoot 9) (fC (.int 1))) (fCons (fC .non) fNil) appS)
  (sSeq
  (sSet 6 (fMeth "order" tb_Ladder_order [] (fVar 0) fNil))
  (sSeq
  (sIf (tOrF (tNotF (fT (f1 (isiD isLst) (fVar 6)))) (f2 neD (fVar 6) (fVar 2))) (sRet (fC (.bl false))) sNil)
  (sSeq
  (sOp 6 (pRoot 6) fNil revS)
  (sRet (fC (.bl true))))))))))))))))
theorem cd__law_told (x0 x1 x2 x3 : D) : callD 4 10 g__law_told [x0, x1, x2, x3] = (g__law_told [some x0, some x1, some x2, some x3, none, none, none, none, none, none]).fin := callD_eq rfl
def c_law_1 : Pd.Env → R D :=
  (fLc (fItm (fSl (fVar 0) oNo (oSome (fC (.int 25))))) (tgName 2) tTrue (fImm (f2 modD (fVar 2) (f2 powD (fC (.int 10)) (fC (.int 60))))) [2])
def bd_law_1 : Pd.Env → SR :=
  (sIf (tNotF (fT (fCall (callD 4 10 g__law_told) [] (fCons (f2 ixD (fVar 8) (f2 modD (fVar 9) (fC (.int 3)))) (fCons (fVar 3) (fCons (f2 ixD (mkLst (fCons (fVar 4) (fCons (fVar 5) (fCons (fVar 4) fNil)))) (f2 modD (fVar 9) (fC (.int 3)))) (fCons (fB (f2 eqD (f2 modD (f2 addD (f2 addD (fS sumS (fCons (fVar 1) fNil)) (f2 divD (fVar 9) (fC (.int 3)))) (fVar 9)) (fC (.int 4))) (fC (.int 0)))) fNil))))))) (sRet (fC (.bl false))) sNil)
def l_law_1 : Pd.Env → SR :=
  (sFor (fRange (fC (.int 6))) (tgName 9) bd_law_1)
def g_law : Pd.Env → SR :=
  (sSeq
  (sSet 1 c_law_1)
  (sSeq
  (sSet 3 (fCall (callD 2 6 g__law_map) [] (fCons (fVar 1) (fCons (fC (.int 7)) fNil))))
  (sSeq
  (sSet 4 (fCall (callD 2 4 g__law_order) [] (fCons (f2 ixD (fVar 3) (fC (.int 0))) (fCons (fS sumS (fCons (fVar 1) fNil)) fNil))))
  (sSeq
  (sSet 5 (fCall (callD 1 8 g_ranked) [] (fCons (mkTup (fCons (f2 ixD (fVar 3) (fC (.int 0))) (fCons (fS listS (fCons (f2 ixD (fVar 3) (fC (.int 1))) fNil)) fNil))) fNil)))
  (sSeq
  (sSet 6 (mkTup (fCons (fImm (f2 ixD (fVar 3) (fC (.int 0)))) (fCons (fFr (fS listS (fCons (f2 ixD (fVar 3) (fC (.int 1))) fNil))) fNil))))
  (sSeq
  (sSet 7 (fFr (fS listS (fCons (fVar 4) fNil))))
  (sSeq
  (sSet 8 (mkLst (fCons (fMake "Ladder" (callM 3 3 g_Ladder___init__) [] (fCons (fVar 6) (fCons (fVar 7) fNil))) (fCons (fMake "Ladder" (callM 3 3 g_Ladder___init__) [.non] (fCons (fVar 6) fNil)) (fCons (fMakeK "Ladder" (callM 3 3 g_Ladder___init__) (fCons (fVar 6) fNil) (fVar 7)) fNil)))))
  (sSeq
  (sIf (tOrF (f2 neD (fVar 6) (fVar 3)) (f2 neD (fVar 7) (fVar 4))) (sRet (fC (.bl false))) sNil)
  (sSeq
  (sOp 6 (pIx 6 (pRoot 6) (fC (.int 1))) fNil clrS)
  (sSeq
  (sOp 7 (pRoot 7) fNil revS)
  (sSeq
  l_law_1
  (sRet (fC (.bl true))))))))))))))
theorem cd_law (x0 : D) : callD 1 10 g_law [x0] = (g_law [some x0, none, none, none, none, none, none, none, none, none]).fin := callD_eq rfl
end
end Nl
set_option Elab.async false
set_option linter.all false
set_option maxRecDepth 100000
set_option maxHeartbeats 1000000
namespace Nl
open PySem L2 Pd
theorem ev_added (a b : Option C) : callD 2 2 g_added [oD a, oD b] = .ok (oD (oadd a b)) := by cases a <;> cases b <;> rfl
theorem filter_some (l : List (Option C)) : (l.filter (fun x => x.isSome)).map oD = (l.filterMap id).map cD := by
  induction l with
  | nil => rfl
  | cons a l ih => cases a <;> simp [oD, ih]
theorem ev_least (l : List (Option C)) (hl : l.length ≤ SZ) : callD 1 2 g_least [.lst (l.map oD)] = .ok (oD (oleast l)) := by
  have h : c_least_1 [some (.lst (l.map oD)), none] = .ok (.lst ((l.filterMap id).map cD)) := by
    rw [← filter_some]
    exact fLc_map oD l (fun x => x.isSome) oD rfl hl fun x _ => ⟨_, rfl, by cases x <;> rfl, fun _ => by cases x <;> rfl⟩
  rw [cd_least]
  simp [g_least, h, minDef_cost]
  unfold oleast
  cases l.filterMap id <;> simp [oD]
theorem ev_road_cost (r : Rd) : callD 1 1 g_road_cost [rD r] = .ok (oD (rcost r)) := by
  obtain ⟨a, b, l, w⟩ := r
  cases l <;> rfl
end Nl
set_option Elab.async false
set_option linter.all false
set_option maxRecDepth 100000
set_option maxHeartbeats 1000000
namespace Nl
open PySem L2 Pd
def bfs (p : Cs × Bool) (r : Rd) : Cs × Bool := (relax p.1 r, p.2 || decide (relv p.1 r ≠ at' p.1 r.e))
theorem bfs_fst (l : List Rd) : ∀ p : Cs × Bool, (l.foldl bfs p).1 = rnd p.1 l := by
  induction l with
  | nil => exact fun p => rfl
  | cons r l ih => exact fun p => ih _
theorem relax_same {f : Cs} {r : Rd} (h : r.e < f.length) (k : relv f r = at' f r.e) : relax f r = f := by
  unfold relax
  rw [k]
  refine List.ext_getElem? fun i => ?_
  rw [List.getElem?_set]
  split
  · rename_i e
    subst e
    exact (at_get h).symm
  · rfl
theorem bfs_true (l : List Rd) : ∀ f : Cs, (l.foldl bfs (f, true)).2 = true := by
  induction l with
  | nil => exact fun f => rfl
  | cons r l ih => exact fun f => ih _
theorem bfs_same (l : List Rd) : ∀ f : Cs, (∀ r ∈ l, r.e < f.length) → (l.foldl bfs (f, false)).2 = false → rnd f l = f ∧ ∀ r ∈ l, relv f r = at' f r.e := by
  induction l with
  | nil => exact fun f _ _ => ⟨rfl, fun r h => nomatch h⟩
  | cons r l ih =>
    intro f h k
    rw [List.foldl_cons] at k
    by_cases e : relv f r = at' f r.e
    · have e2 := relax_same (h r List.mem_cons_self) e
      have e1 : bfs (f, false) r = (f, false) := by simp [bfs, e, e2]
      rw [e1] at k
      obtain ⟨a, b⟩ := ih f (fun x hx => h x (List.mem_cons_of_mem _ hx)) k
      refine ⟨?_, fun x hx => ?_⟩
      · show rnd (relax f r) l = f
        rw [e2, a]
      · rcases List.mem_cons.mp hx with rfl | hx
        · exact e
        · exact b x hx
    · have e1 : bfs (f, false) r = (relax f r, true) := by simp [bfs, e]
      rw [e1, bfs_true] at k
      cases k
abbrev bst (S u : D) (f : Cs) (ch : Bool) (x y : Option D) : Pd.Env := [some S, some u, some (.lst (f.map oD)), some (.bl ch), x, y]
theorem bf_road (S u : D) (f : Cs) (ch : Bool) (r : Rd) (y : Option D) (h1 : r.s < f.length) (h2 : r.e < f.length) : ∃ y', bd_costs_from_1 (bst S u f ch (some (rD r)) y) = .nx (bst S u (bfs (f, ch) r).1 (bfs (f, ch) r).2 (some (rD r)) y') := by
  have a1 : atI (f.map oD) (r.e : Int) = some (oD (at' f r.e)) := at_nat (by rw [List.getElem?_map, at_get h2]; rfl)
  have a2 : atI (f.map oD) (r.s : Int) = some (oD (at' f r.s)) := at_nat (by rw [List.getElem?_map, at_get h1]; rfl)
  have a3 : ixD (rD r) (.int 0) = some (.int r.s) := by simp [rD]
  have a4 : ixD (rD r) (.int 1) = some (.int r.e) := by simp [rD]
  have b1 := ev_road_cost r
  have b2 := ev_added (at' f r.s) (rcost r)
  have b3 : callD 1 2 g_least [.lst [oD (at' f r.e), oD (oadd (at' f r.s) (rcost r))]] = .ok (oD (relv f r)) := by
    have := ev_least [at' f r.e, oadd (at' f r.s) (rcost r)] (by simp [SZ_eq])
    rw [oleast_two] at this
    exact this
  have b4 := eqs_o.neD (relv f r) (at' f r.e)
  by_cases e : relv f r = at' f r.e
  · have e2 := relax_same h2 e
    rw [e] at b3 b4
    simp [bd_costs_from_1, bst, a1, a2, a3, a4, b1, b2, b3, b4, e, bfs, e2]
  · have e3 : (f.map oD).set r.e (oD (relv f r)) = (relax f r).map oD := by unfold relax; rw [List.map_set]
    have e4 : ixN f.length (r.e : Int) = some r.e := ixN_nat h2
    simp [bd_costs_from_1, bst, a1, a2, a3, a4, b1, b2, b3, b4, e, bfs, e3, e4, SR.br]
theorem bf_roads (n : Nat) (rs : List Rd) (hl : rs.length ≤ SZ) (u : D) (f : Cs) (h1 : ∀ r ∈ rs, r.s < f.length) (h2 : ∀ r ∈ rs, r.e < f.length) (ch : Bool) (x y : Option D) :
    ∃ x' y', bd_costs_from_2 (bst (landD n rs) u f ch x y) = .nx (bst (landD n rs) u (rnd f rs) (rs.foldl bfs (f, false)).2 x' y') := by
  obtain ⟨ρ', e1, x', y', e2⟩ := forD_all (h := tgName 4) (body := bd_costs_from_1) (rs.map rD) (fun i ρ => ∃ x y, ρ = bst (landD n rs) u ((rs.take i).foldl bfs (f, false)).1 ((rs.take i).foldl bfs (f, false)).2 x y) (bst (landD n rs) u f false x y) ⟨_, _, rfl⟩ (by
    rintro i d ρ hd ⟨x, y, rfl⟩
    obtain ⟨r, hr, rfl⟩ := map_get hd
    have hm := List.mem_of_getElem? hr
    have len : (((rs.take i).foldl bfs (f, false)).1).length = f.length := by rw [bfs_fst, rnd_len]
    obtain ⟨y', e⟩ := bf_road (landD n rs) u ((rs.take i).foldl bfs (f, false)).1 ((rs.take i).foldl bfs (f, false)).2 r y (by rw [len]; exact h1 r hm) (by rw [len]; exact h2 r hm)
    refine ⟨_, _, rfl, e, some (rD r), y', ?_⟩
    have e3 : (rs.take (i + 1)).foldl bfs (f, false) = bfs ((rs.take i).foldl bfs (f, false)) r := by rw [List.take_add_one, hr]; simp
    rw [e3])
  rw [List.take_of_length_le (by rw [List.length_map]; exact Nat.le_refl _)] at e2
  refine ⟨x', y', ?_⟩
  have e3 : l_costs_from_1 (bst (landD n rs) u f false x y) = .nx ρ' := by
    unfold l_costs_from_1
    rw [sFor_ok (ds := rs.map rD) rfl, e1]
  rw [bfs_fst] at e2
  rw [e2] at e3
  exact e3
theorem bf_rounds {n : Nat} {rs : List Rd} (o : Ok n rs) (hl : rs.length ≤ SZ) (u : Nat) (w : D) : ∀ (k m : Nat) (f : Cs) (x y : Option D), left o u f < m → m + 2 ≤ k → Abv o u f → at' f u = some (0, 0) →
    ∃ x' y', whileD (fT (fVar 3)) bd_costs_from_2 k (bst (landD n rs) w f true x y) = .nx (bst (landD n rs) w (dl o u) false x' y') := by
  intro k
  induction k with
  | zero => intro m f x y _ h; omega
  | succ k ih =>
    intro m f x y hm hk ha h0
    obtain ⟨x', y', e⟩ := bf_roads n rs hl w f (fun r hr => by rw [ha.1]; exact o.s r hr) (fun r hr => by rw [ha.1]; exact o.e r hr) true x y
    have a2 := ha.rnd rs (fun _ z => z)
    have h2 : at' (rnd f rs) u = some (0, 0) := by
      have := settled_rnd ha (fun _ z => z : ∀ r ∈ rs, r ∈ rs) (v := u) (h0.trans (dst_self o.pos u).symm)
      exact this.trans (dst_self o.pos u)
    have step : whileD (fT (fVar 3)) bd_costs_from_2 (k + 1) (bst (landD n rs) w f true x y) = whileD (fT (fVar 3)) bd_costs_from_2 k (bst (landD n rs) w (rnd f rs) (rs.foldl bfs (f, false)).2 x' y') := by
      show (match bd_costs_from_2 (bst (landD n rs) w f true x y) with
        | .nx ρ2 => whileD (fT (fVar 3)) bd_costs_from_2 k ρ2
        | .ct ρ2 => whileD (fT (fVar 3)) bd_costs_from_2 k ρ2
        | .bk ρ2 => .nx ρ2
        | .rt d ρ2 => .rt d ρ2
        | .ex x ρ2 => .ex x ρ2
        | .no => .no) = _
      rw [e]
    rw [step]
    cases hc : (rs.foldl bfs (f, false)).2 with
    | false =>
      obtain ⟨k', rfl⟩ : ∃ k', k = k' + 1 := ⟨k - 1, by omega⟩
      obtain ⟨e1, _⟩ := bfs_same rs f (fun r hr => by rw [ha.1]; exact o.e r hr) hc
      refine ⟨x', y', ?_⟩
      have : f = dl o u := done_eq ha fun v hv => Classical.byContradiction fun z => by
        have := left_lt ha h0 hv z
        rw [e1] at this
        exact Nat.lt_irrefl _ this
      rw [e1, this]
      rfl
    | true =>
      by_cases hz : ∃ v, v < n ∧ at' f v ≠ ds o u v
      · obtain ⟨v, hv, z⟩ := hz
        have := left_lt ha h0 hv z
        exact ih (m - 1) _ _ _ (by omega) (by omega) a2 h2
      · -- nothing is left: nothing can change
        exfalso
        have hf : f = dl o u := done_eq ha fun v hv => Classical.byContradiction fun z => hz ⟨v, hv, z⟩
        have : ∀ l : List Rd, (∀ r ∈ l, r ∈ rs) → (l.foldl bfs (f, false)) = (f, false) := by
          intro l
          induction l with
          | nil => exact fun _ => rfl
          | cons r l ih2 =>
            intro hl2
            have e1 : relv f r = at' f r.e := by rw [hf]; exact dl_relv o u (hl2 r List.mem_cons_self)
            have e2 := relax_same (by rw [ha.1]; exact o.e r (hl2 r List.mem_cons_self)) e1
            have e3 : bfs (f, false) r = (f, false) := by simp [bfs, e1, e2]
            rw [List.foldl_cons, e3]
            exact ih2 fun x hx => hl2 x (List.mem_cons_of_mem _ hx)
        rw [this rs fun _ z => z] at hc
        cases hc
theorem ev_costs_from {n : Nat} {rs : List Rd} (o : Ok n rs) (hl : rs.length ≤ SZ) (hn : n ≤ 900) {u : Nat} (hu : u < n) : callD 2 6 g_costs_from [landD n rs, .int u] = .ok (.lst ((dl o u).map oD)) := by
  rw [cd_costs_from]
  have e0 : ixD (landD n rs) (.int 0) = some (.int n) := rfl
  have e1 : mulD (.lst [.non]) (.int n) = some (.lst ((List.replicate n (none : Option C)).map oD)) := by
    show (if immAll [D.non] = true ∧ 0 ≤ (n : Int) ∧ (n : Int) ≤ 1000000 ∧ [D.non].length * ((n : Int)).toNat ≤ SZ then some (D.lst (repD [.non] (n : Int).toNat)) else none) = _
    rw [if_pos ⟨rfl, by omega, by omega, by simp [SZ_eq]; omega⟩]
    simp [oD, repD]
  have e2 : ixN n (u : Int) = some u := ixN_nat hu
  have e3 : ((List.replicate n (none : Option C)).map oD).set u (.tup [.int 0, .int 0]) = ((List.replicate n (none : Option C)).set u (some (0, 0))).map oD := by rw [List.map_set]; rfl
  have i1 : immAll ((List.replicate n (none : Option C)).map oD) = true := immAll_map imm_o _
  generalize hf : (List.replicate n (none : Option C)).set u (some (0, 0)) = f at e3
  have hlen : f.length = n := by rw [← hf]; simp
  have hat : ∀ v, at' f v = if u = v then some (0, 0) else none := fun v => by
    rw [← hf, at_set _ _ _ _ (by simpa using hu)]
    split
    · rfl
    · unfold at'
      rw [List.getD_eq_getElem?_getD, List.getElem?_replicate]
      split <;> rfl
  obtain ⟨x', y', h⟩ := bf_rounds o hl u (.int u) 1000 (n + 1) f none none (Nat.lt_succ_of_le (left_le o u f)) (by omega) ⟨hlen, fun v => by
    rw [hat]
    split
    · rename_i e; subst e; exact (show ole (ds o _ _) (some (0, 0)) by rw [show ds o u u = some (0, 0) from dst_self o.pos u]; exact cle_refl _)
    · exact ole_none _⟩ (by rw [hat, if_pos rfl])
  have h : l_costs_from_2 [some (landD n rs), some (.int u), some (.lst (f.map oD)), some (.bl true), none, none] = .nx (bst (landD n rs) (.int u) (dl o u) false x' y') := h
  simp [g_costs_from, e0, e1, i1, e2, -List.map_replicate, e3, h]
end Nl
set_option Elab.async false
set_option linter.all false
set_option maxRecDepth 100000
set_option maxHeartbeats 1000000
namespace Nl
open PySem L2 Pd
/-! the least roads by pairs -/
abbrev rst (L F : D) (x2 x3 x4 : Option D) : Pd.Env := [some L, some F, x2, x3, x4]
theorem rc_none (L F R a b l w : D) (hR : R = .tup [a, b, l, w]) (e : callD 1 1 g_road_cost [R] = .ok .non) (x3 x4 : Option D) : bd_road_costs_1 (rst L F (some R) x3 x4) = .nx (rst L F (some R) (some .non) (some (.tup [a, b]))) := by
  have h0 : ixD R (.int 0) = some a := by rw [hR]; rfl
  have h1 : ixD R (.int 1) = some b := by rw [hR]; rfl
  simp [bd_road_costs_1, rst, e, h0, h1]
theorem rc_some (L F F' R a b l w c : D) (bt : Bool) (hR : R = .tup [a, b, l, w]) (e : callD 1 1 g_road_cost [R] = .ok c) (hc : isNon c = false) (cc : chk c = some c) (k : Kpl F (.tup [a, b]) c bt F') (x3 x4 : Option D) : bd_road_costs_1 (rst L F (some R) x3 x4) = .nx (rst L F' (some R) (some c) (some (.tup [a, b]))) := by
  have h0 : ixD R (.int 0) = some a := by rw [hR]; rfl
  have h1 : ixD R (.int 1) = some b := by rw [hR]; rfl
  rcases k with ⟨_, k1, k2⟩ | ⟨_, d, k1, k2, k3, k4⟩ | ⟨_, d, k1, k2, k3, k4⟩
  · simp [bd_road_costs_1, rst, e, h0, h1, hc, cc, k1, k2]
  · simp [bd_road_costs_1, rst, e, h0, h1, hc, cc, k1, k2, k3, k4]
  · subst k4
    simp [bd_road_costs_1, rst, e, h0, h1, hc, cc, k1, k2, k3]
theorem ev_road_costs {n : Nat} {rs : List Rd} (o : Okm n rs) (hn : n * n < SZ) : callD 1 5 g_road_costs [landD n rs] = .ok (pA cD (rcs rs)) := by
  obtain ⟨ρ', e1, x2, x3, x4, e2⟩ := forD_all (h := tgName 2) (body := bd_road_costs_1) (rs.map rD) (fun i ρ => ∃ x2 x3 x4, ρ = rst (landD n rs) (pA cD (rcs (rs.take i))) x2 x3 x4) (rst (landD n rs) (.dT [] []) none none none) ⟨none, none, none, rfl⟩ (by
    rintro i d ρ hd ⟨x2, x3, x4, rfl⟩
    obtain ⟨r, hr, rfl⟩ := map_get hd
    have e := ev_road_cost r
    have st : rcs (rs.take (i + 1)) = rcs1 (rcs (rs.take i)) r := by
      rw [List.take_add_one, hr]
      exact rcs_snoc _ _
    have ok : AOk n (rcs (rs.take i)) := rcs_ok _ .nil fun x hx => by
      have := List.mem_of_mem_take hx
      exact ⟨o.s x this, o.e x this, o.ne x this⟩
    cases hc : rcost r with
    | none =>
      rw [hc] at e
      have e1 : rcs1 (rcs (rs.take i)) r = rcs (rs.take i) := by unfold rcs1; rw [hc]
      rw [st, e1]
      exact ⟨_, _, rfl, rc_none _ _ (rD r) (.int r.s) (.int r.e) (iD r.l) (.int r.w) rfl e x3 x4, _, _, _, rfl⟩
    | some c =>
      rw [hc] at e
      have e1 : rcs1 (rcs (rs.take i)) r = alM (rcs (rs.take i)) (r.s, r.e) c := by unfold rcs1; rw [hc]
      rw [st, e1]
      exact ⟨_, _, rfl, rc_some _ _ _ (rD r) (.int r.s) (.int r.e) (iD r.l) (.int r.w) (cD c) _ rfl e rfl rfl (kpl_pA _ (r.s, r.e) c (Nat.lt_of_le_of_lt ok.len hn)) x3 x4, _, _, _, rfl⟩)
  rw [List.length_map, List.take_length] at e2
  have h : l_road_costs_1 (rst (landD n rs) (.dT [] []) none none none) = .nx ρ' := by
    unfold l_road_costs_1
    rw [sFor_ok (ds := rs.map rD) rfl, e1]
  rw [e2] at h
  rw [cd_road_costs]
  simp only [rst] at h
  generalize landD n rs = L at *
  simp [g_road_costs, h]
/-! going over a place -/
abbrev ost (F E M : D) (x3 x4 x5 : Option D) : Pd.Env := [some F, some E, some M, x3, x4, x5]
theorem over_same (F E M a b : D) (q : neD a b = some false) (x5 : Option D) : bd_over_1 (ost F E M (some a) (some b) x5) = .nx (ost F E M (some a) (some b) x5) := by
  simp [bd_over_1, ost, q]
theorem over_no1 (F E M a b : D) (q : neD a b = some true) (q1 : inD (.tup [a, M]) F = some false) (x5 : Option D) : bd_over_1 (ost F E M (some a) (some b) x5) = .nx (ost F E M (some a) (some b) x5) := by
  simp [bd_over_1, ost, q, q1]
theorem over_no2 (F E M a b : D) (q : neD a b = some true) (q1 : inD (.tup [a, M]) F = some true) (q2 : inD (.tup [M, b]) F = some false) (x5 : Option D) : bd_over_1 (ost F E M (some a) (some b) x5) = .nx (ost F E M (some a) (some b) x5) := by
  simp [bd_over_1, ost, q, q1, q2]
theorem over_yes (F F' E M a b c d s : D) (bt : Bool) (q : neD a b = some true) (q1 : inD (.tup [a, M]) F = some true) (q2 : inD (.tup [M, b]) F = some true) (i1 : ixD F (.tup [a, M]) = some c) (i2 : ixD F (.tup [M, b]) = some d) (e : callD 2 2 g_added [c, d] = .ok s) (cs : chk s = some s) (k : Kpl F (.tup [a, b]) s bt F') (x5 : Option D) : bd_over_1 (ost F E M (some a) (some b) x5) = .nx (ost F' E M (some a) (some b) (some s)) := by
  rcases k with ⟨_, k1, k2⟩ | ⟨_, d, k1, k2, k3, k4⟩ | ⟨_, d, k1, k2, k3, k4⟩
  · simp [bd_over_1, ost, q, q1, q2, i1, i2, e, cs, k1, k2]
  · simp [bd_over_1, ost, q, q1, q2, i1, i2, e, cs, k1, k2, k3, k4]
  · subst k4
    simp [bd_over_1, ost, q, q1, q2, i1, i2, e, cs, k1, k2, k3]
theorem over_one (l : Ac) (E : D) (m a b : Nat) (hl : l.length < SZ) (x5 : Option D) : ∃ y5, bd_over_1 (ost (pA cD l) E (nD m) (some (nD a)) (some (nD b)) x5) = .nx (ost (pA cD (ovp m l (a, b))) E (nD m) (some (nD a)) (some (nD b)) y5) := by
  have q := ne_nat' a b
  have q1 := in_pA (em := cD) l (a, m)
  have q2 := in_pA (em := cD) l (m, b)
  have i1 := ix_pA (em := cD) l (a, m)
  have i2 := ix_pA (em := cD) l (m, b)
  unfold ovp
  by_cases e : a = b
  · subst e
    simp at q
    exact ⟨x5, by simpa using over_same _ _ _ _ _ q x5⟩
  · simp only [e, decide_false, Bool.not_false] at q
    simp only [e, if_false]
    cases h1 : alG l (a, m) with
    | none =>
      rw [h1] at q1
      exact ⟨x5, over_no1 _ _ _ _ _ q q1 x5⟩
    | some c => cases h2 : alG l (m, b) with
      | none =>
        rw [h1] at q1
        rw [h2] at q2
        exact ⟨x5, over_no2 _ _ _ _ _ q q1 q2 x5⟩
      | some d =>
        rw [h1] at q1 i1
        rw [h2] at q2 i2
        exact ⟨_, over_yes _ _ _ _ _ _ (cD c) (cD d) (cD (cadd c d)) _ q q1 q2 i1 i2 (ev_added (some c) (some d)) rfl (kpl_pA l (a, b) (cadd c d) hl) x5⟩
theorem over_row {n : Nat} (hn : n * n < SZ) (m a : Nat) (ha : a < n) (ends : List Nat) (he : ∀ b ∈ ends, b < n) (l : Ac) (ok : AOk n l) (x4 x5 : Option D) : ∃ y4 y5, bd_over_2 (ost (pA cD l) (.lst (ends.map nD)) (nD m) (some (nD a)) x4 x5) = .nx (ost (pA cD (ov1 m a ends l)) (.lst (ends.map nD)) (nD m) (some (nD a)) y4 y5) := by
  obtain ⟨ρ', e1, y4, y5, e2⟩ := forD_all (h := tgName 4) (body := bd_over_1) (ends.map nD) (fun i ρ => ∃ y4 y5, ρ = ost (pA cD (ov1 m a (ends.take i) l)) (.lst (ends.map nD)) (nD m) (some (nD a)) y4 y5) (ost (pA cD l) (.lst (ends.map nD)) (nD m) (some (nD a)) x4 x5) ⟨x4, x5, rfl⟩ (by
    rintro i d ρ hd ⟨y4, y5, rfl⟩
    obtain ⟨b, hb, rfl⟩ := map_get hd
    have k := ov1_ok (m := m) ha (ends.take i) ok fun x hx => he x (List.mem_of_mem_take hx)
    obtain ⟨z5, e⟩ := over_one (ov1 m a (ends.take i) l) (.lst (ends.map nD)) m a b (Nat.lt_of_le_of_lt k.len hn) y5
    have : ov1 m a (ends.take (i + 1)) l = ovp m (ov1 m a (ends.take i) l) (a, b) := by
      unfold ov1
      rw [List.take_add_one, hb, List.foldl_append]
      rfl
    rw [this]
    exact ⟨_, _, rfl, e, _, _, rfl⟩)
  rw [List.length_map, List.take_length] at e2
  refine ⟨y4, y5, ?_⟩
  unfold bd_over_2 l_over_1
  rw [sFor_ok (ds := ends.map nD) rfl, e1, e2]
theorem ev_over {n : Nat} (hn : n * n < SZ) (m : Nat) (ends : List Nat) (he : ∀ b ∈ ends, b < n) (l : Ac) (ok : AOk n l) : ∃ x3 x4 x5, callM 3 6 g_over [pA cD l, .lst (ends.map nD), nD m] = .ok .non (ost (pA cD (ov m ends ends l)) (.lst (ends.map nD)) (nD m) x3 x4 x5) := by
  obtain ⟨ρ', e1, x3, x4, x5, e2⟩ := forD_all (h := tgName 3) (body := bd_over_2) (ends.map nD) (fun i ρ => ∃ x3 x4 x5, ρ = ost (pA cD (ov m ends (ends.take i) l)) (.lst (ends.map nD)) (nD m) x3 x4 x5) (ost (pA cD l) (.lst (ends.map nD)) (nD m) none none none) ⟨none, none, none, rfl⟩ (by
    rintro i d ρ hd ⟨x3, x4, x5, rfl⟩
    obtain ⟨a, ha, rfl⟩ := map_get hd
    have k := ov_ok (m := m) he (ends.take i) ok fun x hx => he x (List.mem_of_mem_take hx)
    obtain ⟨z4, z5, e⟩ := over_row hn m a (he a (List.mem_of_getElem? ha)) ends he (ov m ends (ends.take i) l) k x4 x5
    have : ov m ends (ends.take (i + 1)) l = ov1 m a ends (ov m ends (ends.take i) l) := by
      unfold ov
      rw [List.take_add_one, ha, List.foldl_append]
      rfl
    rw [this]
    exact ⟨_, _, rfl, e, _, _, _, rfl⟩)
  rw [List.length_map, List.take_length] at e2
  refine ⟨x3, x4, x5, ?_⟩
  rw [cd_over]
  have h : g_over (ost (pA cD l) (.lst (ends.map nD)) (nD m) none none none) = .nx ρ' := by
    unfold g_over l_over_2
    rw [sFor_ok (ds := ends.map nD) rfl, e1]
  show (g_over (ost (pA cD l) (.lst (ends.map nD)) (nD m) none none none)).finM = _
  rw [h, e2]
  rfl
/-! all arcs -/
abbrev ast (L O F : D) (x3 x4 : Option D) : Pd.Env := [some L, some O, some F, x3, x4]
theorem ac_ev (L O F F' E M : D) (i : Int) (ρ1 : Pd.Env) (h1 : slD O (some (i + 1)) none = some E) (e : callM 3 6 g_over [F, E, M] = .ok .non ρ1) (h2 : ρ1[0]? = some (some F')) : bd_arc_costs_1 (ast L O F (some (.int i)) (some M)) = .nx (ast L O F' (some (.int i)) (some M)) := by
  simp [bd_arc_costs_1, ast, h1, e, h2]
theorem ev_arc_costs {n : Nat} {rs : List Rd} (o : Okm n rs) (hn : n * n < SZ) {ord : List Nat} (ho : Ordr n ord) : callD 2 5 g_arc_costs [landD n rs, .lst (ord.map nD)] = .ok (pA cD (acs rs ord)) := by
  have r0 := ev_road_costs o hn
  have ok0 : AOk n (rcs rs) := rcs_ok rs .nil fun r hr => ⟨o.s r hr, o.e r hr, o.ne r hr⟩
  obtain ⟨ρ', e1, x3, x4, e2⟩ := forD_all (h := (tgTup 2 (tgCons (tgName 3) (tgCons (tgName 4) tgNil)))) (body := bd_arc_costs_1) (enumD 0 (ord.map nD)) (fun i ρ => ∃ x3 x4, ρ = ast (landD n rs) (.lst (ord.map nD)) (pA cD (acI ord (rcs rs) i)) x3 x4) (ast (landD n rs) (.lst (ord.map nD)) (pA cD (rcs rs)) none none) ⟨none, none, rfl⟩ (by
    rintro i d ρ hd ⟨x3, x4, rfl⟩
    obtain ⟨e, he, rfl⟩ := enum_get hd
    obtain ⟨m, hm, rfl⟩ := map_get he
    have k := acI_ok ok0 ho i
    have sl : slD (.lst (ord.map nD)) (some ((i : Int) + 1)) none = some (.lst ((ord.drop (i + 1)).map nD)) := by
      rw [e_sl_lst, List.map_drop]
      exact congrArg (fun z => some (D.lst z)) (cut_from (ord.map nD) (i + 1))
    obtain ⟨y3, y4, y5, e⟩ := ev_over hn m (ord.drop (i + 1)) (fun b hb => (ho.mem b).mp (List.mem_of_mem_drop hb)) _ k
    have : acI ord (rcs rs) (i + 1) = ov m (ord.drop (i + 1)) (ord.drop (i + 1)) (acI ord (rcs rs) i) := by
      show (match ord[i]? with
        | some m => ov m (ord.drop (i + 1)) (ord.drop (i + 1)) (acI ord (rcs rs) i)
        | none => acI ord (rcs rs) i) = _
      rw [hm]
    rw [this]
    exact ⟨_, _, rfl, ac_ev _ _ _ _ _ _ i _ sl e rfl, _, _, rfl⟩)
  rw [enumD_len, List.length_map] at e2
  have h : l_arc_costs_1 (ast (landD n rs) (.lst (ord.map nD)) (pA cD (rcs rs)) none none) = .nx ρ' := by
    unfold l_arc_costs_1
    rw [sFor_ok (ds := enumD 0 (ord.map nD)) (e_fEnum rfl), e1]
  rw [e2] at h
  rw [cd_arc_costs]
  simp only [ast] at h
  show _ = R.ok (pA cD (acI ord (rcs rs) ord.length))
  generalize landD n rs = L at *
  generalize D.lst (ord.map nD) = O at *
  simp [g_arc_costs, r0, h]
end Nl
set_option Elab.async false
set_option linter.all false
set_option maxRecDepth 100000
set_option maxHeartbeats 1000000
namespace Nl
open PySem L2 Pd
/-! the middle of an arc -/
abbrev most (F P B : D) (x3 : Option D) : Pd.Env := [some F, some P, some B, x3]
theorem mo_no1 (F P B M a b : D) (p0 : ixD P (.int 0) = some a) (p1 : ixD P (.int 1) = some b) (q1 : inD (.tup [a, M]) F = some false) : bd_middle_of_1 (most F P B (some M)) = .nx (most F P B (some M)) := by
  simp [bd_middle_of_1, most, p0, p1, q1]
theorem mo_no2 (F P B M a b : D) (p0 : ixD P (.int 0) = some a) (p1 : ixD P (.int 1) = some b) (q1 : inD (.tup [a, M]) F = some true) (q2 : inD (.tup [M, b]) F = some false) : bd_middle_of_1 (most F P B (some M)) = .nx (most F P B (some M)) := by
  simp [bd_middle_of_1, most, p0, p1, q1, q2]
theorem mo_yes (F P B M a b c d s e : D) (p0 : ixD P (.int 0) = some a) (p1 : ixD P (.int 1) = some b) (q1 : inD (.tup [a, M]) F = some true) (q2 : inD (.tup [M, b]) F = some true) (i1 : ixD F (.tup [a, M]) = some c) (i2 : ixD F (.tup [M, b]) = some d) (h : callD 2 2 g_added [c, d] = .ok s) (i3 : ixD F P = some e) (bt : Bool) (q3 : eqD s e = some bt) (cm : chk M = some M) : bd_middle_of_1 (most F P B (some M)) = if bt = true then .rt M (most F P B (some M)) else .nx (most F P B (some M)) := by
  cases bt <;> simp [bd_middle_of_1, most, p0, p1, q1, q2, i1, i2, h, i3, q3, cm]
theorem mo_one (l : Ac) (p : Pr) (c : C) (hc : alG l p = some c) (B : D) (m : Nat) : bd_middle_of_1 (most (pA cD l) (pD p) B (some (nD m))) = if mdp (alG l) p m = true then .rt (nD m) (most (pA cD l) (pD p) B (some (nD m))) else .nx (most (pA cD l) (pD p) B (some (nD m))) := by
  have p0 : ixD (pD p) (.int 0) = some (nD p.1) := rfl
  have p1 : ixD (pD p) (.int 1) = some (nD p.2) := rfl
  have q1 := in_pA (em := cD) l (p.1, m)
  have q2 := in_pA (em := cD) l (m, p.2)
  have i1 := ix_pA (em := cD) l (p.1, m)
  have i2 := ix_pA (em := cD) l (m, p.2)
  have i3 := ix_pA (em := cD) l p
  rw [hc] at i3
  unfold mdp
  rw [hc]
  cases h1 : alG l (p.1, m) with
  | none =>
    rw [h1] at q1
    rw [oadd_nonel, if_neg (by simp)]
    exact mo_no1 _ _ _ _ _ _ p0 p1 q1
  | some a => cases h2 : alG l (m, p.2) with
    | none =>
      rw [h1] at q1
      rw [h2] at q2
      rw [oadd_none, if_neg (by simp)]
      exact mo_no2 _ _ _ _ _ _ p0 p1 q1 q2
    | some b =>
      rw [h1] at q1 i1
      rw [h2] at q2 i2
      have := mo_yes _ _ B _ _ _ (cD a) (cD b) (cD (cadd a b)) (cD c) p0 p1 q1 q2 i1 i2 (ev_added (some a) (some b)) i3 _ (eqs_c.eqD (cadd a b) c) rfl
      have e : (oadd (some a) (some b) = some c) ↔ cadd a b = c := by
        show some (cadd a b) = some c ↔ _
        simp
      simp only [e]
      exact this
theorem ev_middle_of (l : Ac) (p : Pr) (c : C) (hc : alG l p = some c) (bs : List Nat) : callD 3 4 g_middle_of [pA cD l, pD p, .lst (bs.map nD)] = .ok (oN (bs.find? (mdp (alG l) p))) := by
  have key := forD_find (h := tgName 3) (body := bd_middle_of_1) nD (mdp (alG l) p) nD (fun ρ => ∃ x3, ρ = most (pA cD l) (pD p) (.lst (bs.map nD)) x3) bs (most (pA cD l) (pD p) (.lst (bs.map nD)) none) ⟨none, rfl⟩ (by
    rintro m hm ρ ⟨x3, rfl⟩
    have e := mo_one l p c hc (.lst (bs.map nD)) m
    refine ⟨_, rfl, fun h => ⟨_, ?_, some (nD m), rfl⟩, fun h => ⟨most (pA cD l) (pD p) (.lst (bs.map nD)) (some (nD m)), ?_⟩⟩
    · rw [h, if_neg (by simp)] at e
      exact e
    · rw [h, if_pos rfl] at e
      exact e)
  have hl : ∀ ρ, l_middle_of_1 (most (pA cD l) (pD p) (.lst (bs.map nD)) none) = ρ ↔ forD (tgName 3) bd_middle_of_1 (bs.map nD) (most (pA cD l) (pD p) (.lst (bs.map nD)) none) = ρ := fun ρ => by
    unfold l_middle_of_1
    rw [sFor_ok (ds := bs.map nD) rfl]
  rw [cd_middle_of]
  revert key
  cases hf : bs.find? (mdp (alG l) p) with
  | some m =>
    rintro ⟨ρ', e⟩
    have e' := (hl _).mpr e
    show (g_middle_of (most (pA cD l) (pD p) (.lst (bs.map nD)) none)).fin = _
    simp only [g_middle_of, e_sSeq, e', e_rt, e_fin_rt]
    rfl
  | none =>
    rintro ⟨ρ', e, _⟩
    have e' := (hl _).mpr e
    show (g_middle_of (most (pA cD l) (pD p) (.lst (bs.map nD)) none)).fin = _
    simp only [g_middle_of, e_sSeq, e', e_nx, e_sRet, e_fC, e_st_ok, e_fin_rt]
    rfl
/-! all middles -/
abbrev mist (L O F R T : D) (x5 x6 : Option D) : Pd.Env := [some L, some O, some F, some R, some T, x5, x6]
theorem mi_road (L O F R T T' P g c : D) (hd : isDk R = true) (q1 : getN R P = some g) (i1 : ixD F P = some c) (q : eqD g c = some true) (st : setD T P .non = some T') (x6 : Option D) : bd_middles_1 (mist L O F R T (some P) x6) = .nx (mist L O F R T' (some P) x6) := by
  simp [bd_middles_1, mist, hd, q1, i1, q, st]
theorem mi_mid (L O F R T T' P g c a b B v : D) (ol : List D) (i j k : Int) (hO : O = .lst ol) (hd : isDk R = true) (q1 : getN R P = some g) (i1 : ixD F P = some c) (q : eqD g c = some false) (p0 : ixD P (.int 0) = some a) (p1 : ixD P (.int 1) = some b) (x1 : idxD O a = some (.int i)) (x2 : idxD O b = some (.int j)) (hk : (if j < i then j else i) = k) (sl : slD O none (some k) = some B) (e : callD 3 4 g_middle_of [F, P, B] = .ok v) (st : setD T P v = some T') (x6 : Option D) : bd_middles_1 (mist L O F R T (some P) x6) = .nx (mist L O F R T' (some P) (some B)) := by
  have f1 : fIdx (fVar 1) (f2 ixD (fVar 5) (fC (.int 0))) [some L, some O, some F, some R, some T, some P, x6] = .ok (.int i) := by
    subst hO
    unfold fIdx
    simp [p0, x1]
  have f2 : fIdx (fVar 1) (f2 ixD (fVar 5) (fC (.int 1))) [some L, some O, some F, some R, some T, some P, x6] = .ok (.int j) := by
    subst hO
    unfold fIdx
    simp [p1, x2]
  simp [bd_middles_1, mist, hd, q1, i1, q, f1, f2, hk, sl, e, st]
theorem mn_if (ord : List Nat) (p : Pr) : (if (rkF ord p.2 : Int) < (rkF ord p.1 : Int) then (rkF ord p.2 : Int) else (rkF ord p.1 : Int)) = (mn ord p : Nat) := by
  unfold mn
  split <;> omega
theorem bws_sl (ord : List Nat) (p : Pr) : slD (.lst (ord.map nD)) none (some (mn ord p : Int)) = some (.lst ((bws ord p).map nD)) := by
  rw [e_sl_lst, cut_to]
  unfold bws
  rw [List.map_take]
theorem imm_oN (a : Option Nat) : imm (oN a) = true := by cases a <;> rfl
theorem mi_one (L : D) {ord : List Nat} (F R : Ac) (T : List (Pr × Option Nat)) (hT : T.length < SZ) (p : Pr) (c : C) (hc : alG F p = some c) (h1 : p.1 ∈ ord) (h2 : p.2 ∈ ord) (x6 : Option D) : ∃ y6, bd_middles_1 (mist L (.lst (ord.map nD)) (pA cD F) (pA cD R) (pA oN T) (some (pD p)) x6) = .nx (mist L (.lst (ord.map nD)) (pA cD F) (pA cD R) (pA oN (alP T p (mdl ord (alG F) (alG R) p))) (some (pD p)) y6) := by
  have q1 := get_pA (em := cD) R p
  have e0 : ((alG R p).map cD).getD .non = oD (alG R p) := by cases alG R p <;> rfl
  rw [e0] at q1
  have i1 := ix_pA (em := cD) F p
  rw [hc] at i1
  have q := eqs_o.eqD (alG R p) (some c)
  have st := fun v => set_pA T p v hT (imm_oN v)
  unfold mdl
  rw [hc]
  by_cases e : alG R p = some c
  · rw [if_pos e]
    rw [decide_eq_true e] at q
    exact ⟨x6, mi_road _ _ _ _ _ _ _ _ _ rfl q1 i1 q (st none) x6⟩
  · rw [if_neg e]
    rw [decide_eq_false e] at q
    exact ⟨_, mi_mid _ _ _ _ _ _ _ _ _ (nD p.1) (nD p.2) _ _ (ord.map nD) _ _ _ rfl rfl q1 i1 q rfl rfl (idx_nats h1) (idx_nats h2) (mn_if ord p) (bws_sl ord p) (ev_middle_of F p c hc _) (st _) x6⟩
theorem ev_middles {n : Nat} {rs : List Rd} (o : Okm n rs) (hn : n * n < SZ) {ord : List Nat} (ho : Ordr n ord) : callD 2 7 g_middles [landD n rs, .lst (ord.map nD)] = .ok (pA oN (ovr (mdl ord (alG (acs rs ord)) (alG (rcs rs))) (acs rs ord))) := by
  have e1 := ev_arc_costs o hn ho
  have e2 := ev_road_costs o hn
  have ok := acs_aok o ho
  generalize hF : acs rs ord = F at *
  generalize hR : rcs rs = R at *
  obtain ⟨ρ', a1, x5, x6, a2⟩ := forD_all (h := tgName 5) (body := bd_middles_1) (F.map fun x => pD x.1) (fun i ρ => ∃ x5 x6, ρ = mist (landD n rs) (.lst (ord.map nD)) (pA cD F) (pA cD R) (pA oN (ovr (mdl ord (alG F) (alG R)) (F.take i))) x5 x6) (mist (landD n rs) (.lst (ord.map nD)) (pA cD F) (pA cD R) (.dT [] []) none none) ⟨none, none, rfl⟩ (by
    rintro i d ρ hd ⟨x5, x6, rfl⟩
    obtain ⟨x, hx, rfl⟩ := map_get hd
    obtain ⟨p, c⟩ := x
    have hm := List.mem_of_getElem? hx
    have hc := alG_of ok.nd hm
    obtain ⟨r1, r2, _⟩ := ok.get hc
    have hl : (ovr (mdl ord (alG F) (alG R)) (F.take i)).length < SZ := by
      unfold ovr
      rw [List.length_map, List.length_take]
      have := ok.len
      omega
    obtain ⟨y6, e⟩ := mi_one (landD n rs) F R (ovr (mdl ord (alG F) (alG R)) (F.take i)) hl p c hc ((ho.mem p.1).mpr r1) ((ho.mem p.2).mpr r2) x6
    have : ovr (mdl ord (alG F) (alG R)) (F.take (i + 1)) = alP (ovr (mdl ord (alG F) (alG R)) (F.take i)) p (mdl ord (alG F) (alG R) p) := by
      rw [alP_new (by rw [ovr_get, take_new ok.nd hx]; rfl), List.take_add_one, hx]
      unfold ovr
      rw [List.map_append]
      rfl
    rw [this]
    exact ⟨_, _, rfl, e, _, _, rfl⟩)
  rw [List.length_map, List.take_length] at a2
  have h : l_middles_1 (mist (landD n rs) (.lst (ord.map nD)) (pA cD F) (pA cD R) (.dT [] []) none none) = .nx ρ' := sForK_nx rfl (keys_pA cD F) a1
  rw [a2] at h
  rw [cd_middles]
  simp only [mist] at h
  generalize landD n rs = L at *
  generalize D.lst (ord.map nD) = O at *
  generalize pA cD F = FF at *
  generalize pA cD R = RR at *
  simp [g_middles, e1, e2, h]
end Nl
set_option Elab.async false
set_option linter.all false
set_option maxRecDepth 100000
set_option maxHeartbeats 1000000
namespace Nl
open PySem L2 Pd
theorem bow_ev (L : D) (b : Bw) (r : Rd) (hb : b.length < SZ) : bd_bows_of_1 [some L, some (bD b), some (rD r)] = .nx [some L, some (bD (if r.l.isSome = true then addB b (r.s, r.e) else b)), some (rD r)] := by
  have a0 : ixD (rD r) (.int 0) = some (.int r.s) := by simp [rD]
  have a1 : ixD (rD r) (.int 1) = some (.int r.e) := by simp [rD]
  have a2 : ixD (rD r) (.int 2) = some (iD r.l) := by simp [rD]
  have s1 : setD (bD b) (.tup [.int r.s, .int r.e]) (.bl true) = some (bD (addB b (r.s, r.e))) := set_bw b (r.s, r.e) hb
  generalize hB : bD b = B at *
  cases hl : r.l with
  | none =>
    rw [hl] at a2
    simp [bd_bows_of_1, a2, iD, hB]
  | some l =>
    rw [hl] at a2
    simp [bd_bows_of_1, a0, a1, a2, s1, iD]
theorem ev_bows_of (n : Nat) (rs : List Rd) (hl : rs.length < SZ) : callD 1 3 g_bows_of [landD n rs] = .ok (bD (bows rs)) := by
  obtain ⟨ρ', e1, b, x2, hlen, e2, e3⟩ := forD_all (h := tgName 2) (body := bd_bows_of_1) (rs.map rD) (fun i ρ => ∃ (b : Bw) (x2 : Option D), b.length ≤ i ∧ b = bows (rs.take i) ∧ ρ = [some (landD n rs), some (bD b), x2]) [some (landD n rs), some (bD []), none] ⟨[], none, Nat.le_refl _, rfl, rfl⟩ (by
    rintro i d ρ hd ⟨b, x2, hlen, hb, rfl⟩
    obtain ⟨r, hr, rfl⟩ := map_get hd
    obtain ⟨hi, _⟩ := List.getElem?_eq_some_iff.mp hr
    refine ⟨_, _, rfl, bow_ev _ b r (by omega), _, _, ?_, ?_, rfl⟩
    · split
      · exact Nat.le_trans (addB_len _ _) (by omega)
      · omega
    · unfold bows
      rw [List.take_add_one, hr, List.filter_append, List.foldl_append]
      unfold bows at hb
      rw [← hb]
      cases hl : r.l <;> simp [hl])
  rw [List.length_map, List.take_length] at e2
  have h : l_bows_of_1 [some (landD n rs), some (bD []), none] = .nx ρ' := by
    unfold l_bows_of_1
    rw [sFor_ok (ds := rs.map rD) rfl, e1]
  rw [e3, e2] at h
  rw [cd_bows_of]
  have h0 : D.dT [] [] = bD [] := rfl
  simp [g_bows_of, h0, h]
abbrev kst (B L p F : D) (x4 x5 : Option D) : Pd.Env := [some B, some L, some p, some F, x4, x5]
theorem lack_ev (B L P O T : D) (l : List D) (p1 p2 p3 p4 p5 p6 : Bool) (q1 : neD O T = some p1) (q2 : neD O P = some p2) (q3 : neD T P = some p3) (q4 : notinD (.tup [O, T]) B = some p4) (q5 : inD (.tup [O, P]) B = some p5) (q6 : inD (.tup [P, T]) B = some p6) (c1 : chk O = some O) (c2 : chk T = some T) (hl : l.length < SZ) :
    bd_lacking_1 (kst B L P (.lst l) (some O) (some T)) = .nx (kst B L P (.lst (if (p1 && (p2 && (p3 && (p4 && (p5 && p6))))) = true then l ++ [.tup [O, T]] else l)) (some O) (some T)) := by
  cases p1
  · simp [bd_lacking_1, kst, q1]
  cases p2
  · simp [bd_lacking_1, kst, q1, q2]
  cases p3
  · simp [bd_lacking_1, kst, q1, q2, q3]
  cases p4
  · simp [bd_lacking_1, kst, q1, q2, q3, q4]
  cases p5
  · simp [bd_lacking_1, kst, q1, q2, q3, q4, q5]
  cases p6
  · simp [bd_lacking_1, kst, q1, q2, q3, q4, q5, q6]
  · simp [bd_lacking_1, kst, q1, q2, q3, q4, q5, q6, c1, c2, hl]
theorem ne_nat (x y : Nat) : neD (nD x) (nD y) = some (decide (x ≠ y)) := by
  show neD (.int x) (.int y) = _
  rw [e_ne_int, ← decide_not]
  congr 1
  exact decide_eq_decide.mpr (by omega)
theorem lack_one (b : Bw) (L : D) (place one other : Nat) (l : List Pr) (hl : l.length < SZ) : bd_lacking_1 (kst (bD b) L (nD place) (.lst (l.map pD)) (some (nD one)) (some (nD other))) = .nx (kst (bD b) L (nD place) (.lst ((if okp b place one other = true then l ++ [(one, other)] else l).map pD)) (some (nD one)) (some (nD other))) := by
  have h := lack_ev (bD b) L (nD place) (nD one) (nD other) (l.map pD) _ _ _ _ _ _ (ne_nat one other) (ne_nat one place) (ne_nat other place) (nin_bw b (one, other)) (in_bw b (one, place)) (in_bw b (place, other)) rfl rfl (by rw [List.length_map]; exact hl)
  rw [h]
  have e : (if okp b place one other = true then l ++ [(one, other)] else l).map pD = if okp b place one other = true then l.map pD ++ [.tup [nD one, nD other]] else l.map pD := by
    split
    · rw [List.map_append]; rfl
    · rfl
  rw [e]
  rfl
theorem lack_row (b : Bw) (left : List Nat) (place one : Nat) (l : List Pr) (hl : l.length + left.length < SZ) (x5 : Option D) : ∃ y5, bd_lacking_2 (kst (bD b) (.lst (left.map nD)) (nD place) (.lst (l.map pD)) (some (nD one)) x5) = .nx (kst (bD b) (.lst (left.map nD)) (nD place) (.lst ((l ++ (left.filter (okp b place one)).map fun o => (one, o)).map pD)) (some (nD one)) y5) := by
  obtain ⟨ρ', e1, y5, e2⟩ := forD_all (h := tgName 5) (body := bd_lacking_1) (left.map nD) (fun i ρ => ∃ y5, ρ = kst (bD b) (.lst (left.map nD)) (nD place) (.lst ((l ++ ((left.take i).filter (okp b place one)).map fun o => (one, o)).map pD)) (some (nD one)) y5) (kst (bD b) (.lst (left.map nD)) (nD place) (.lst (l.map pD)) (some (nD one)) x5) ⟨x5, by simp⟩ (by
    rintro i d ρ hd ⟨y5, rfl⟩
    obtain ⟨o, ho, rfl⟩ := map_get hd
    have hk : (l ++ ((left.take i).filter (okp b place one)).map fun o => ((one, o) : Pr)).length < SZ := by
      rw [List.length_append, List.length_map]
      have h1 : ((left.take i).filter (okp b place one)).length ≤ left.length := Nat.le_trans (List.length_filter_le _ _) (by rw [List.length_take]; omega)
      omega
    refine ⟨_, _, rfl, lack_one b _ place one o _ hk, some (nD o), ?_⟩
    have : (l ++ ((left.take (i + 1)).filter (okp b place one)).map fun o => ((one, o) : Pr)) = if okp b place one o = true then (l ++ ((left.take i).filter (okp b place one)).map fun o => (one, o)) ++ [(one, o)] else l ++ ((left.take i).filter (okp b place one)).map fun o => (one, o) := by
      rw [List.take_add_one, ho, List.filter_append]
      by_cases h : okp b place one o = true <;> simp [h]
    rw [this])
  rw [List.length_map, List.take_length] at e2
  refine ⟨y5, ?_⟩
  unfold bd_lacking_2 l_lacking_1
  rw [sFor_ok (ds := left.map nD) rfl, e1, e2]
theorem ev_lacking (b : Bw) (left : List Nat) (place : Nat) (hl : left.length ≤ 500) : callD 3 6 g_lacking [bD b, .lst (left.map nD), nD place] = .ok (.lst ((lackL b left place).map pD)) := by
  obtain ⟨ρ', e1, y4, y5, e2⟩ := forD_all (h := tgName 4) (body := bd_lacking_2) (left.map nD) (fun i ρ => ∃ y4 y5, ρ = kst (bD b) (.lst (left.map nD)) (nD place) (.lst (((left.take i).flatMap fun one => (left.filter (okp b place one)).map fun o => (one, o)).map pD)) y4 y5) (kst (bD b) (.lst (left.map nD)) (nD place) (.lst []) none none) ⟨_, _, rfl⟩ (by
    rintro i d ρ hd ⟨y4, y5, rfl⟩
    obtain ⟨o, ho, rfl⟩ := map_get hd
    have hk : (((left.take i).flatMap fun one => (left.filter (okp b place one)).map fun o => ((one, o) : Pr))).length ≤ 500 * 500 := by
      rw [List.length_flatMap]
      have : ∀ l : List Nat, (l.map fun one => ((left.filter (okp b place one)).map fun o => ((one, o) : Pr)).length).sum ≤ l.length * 500 := by
        intro l
        induction l with
        | nil => simp
        | cons a l ih =>
          simp only [List.map_cons, List.sum_cons, List.length_cons, List.length_map] at ih ⊢
          have h1 : (left.filter (okp b place a)).length ≤ left.length := List.length_filter_le _ _
          omega
      refine Nat.le_trans (this _) (Nat.mul_le_mul_right _ ?_)
      rw [List.length_take]; omega
    obtain ⟨z5, e⟩ := lack_row b left place o ((left.take i).flatMap fun one => (left.filter (okp b place one)).map fun o => ((one, o) : Pr)) (by rw [SZ_eq]; omega) y5
    refine ⟨_, _, rfl, e, some (nD o), z5, ?_⟩
    rw [List.take_add_one, ho, List.flatMap_append]
    simp)
  rw [List.length_map, List.take_length] at e2
  have h : l_lacking_2 (kst (bD b) (.lst (left.map nD)) (nD place) (.lst []) none none) = .nx ρ' := by
    unfold l_lacking_2
    rw [sFor_ok (ds := left.map nD) rfl, e1]
  rw [e2] at h
  rw [cd_lacking]
  simp only [kst] at h
  generalize bD b = B at *
  generalize D.lst (left.map nD) = L at *
  simp [g_lacking, h, lackL]
end Nl
set_option Elab.async false
set_option linter.all false
set_option maxRecDepth 100000
set_option maxHeartbeats 1000000
namespace Nl
open PySem L2 Pd
theorem bowp_ev (L B Lf O x4 x5 x6 p B' : D) (s : setD B p (.bl true) = some B') (x4 x5 x6 : Option D) : bd_ranked_1 [some L, some B, some Lf, some O, x4, x5, x6, some p] = .nx [some L, some B', some Lf, some O, x4, x5, x6, some p] := by
  simp [bd_ranked_1, s]
theorem bowl_ev (L : D) (b : Bw) (left : List Nat) (O : D) (place : Nat) (hl : left.length ≤ 500) (hb : b.length + left.length * left.length < SZ) (x4 x5 x7 : Option D) :
    ∃ y7, l_ranked_1 [some L, some (bD b), some (.lst (left.map nD)), some O, x4, x5, some (nD place), x7] = .nx [some L, some (bD (addAll b (lackL b left place))), some (.lst (left.map nD)), some O, x4, x5, some (nD place), y7] := by
  have e0 := ev_lacking b left place hl
  have hk := lackL_len b left place
  generalize lackL b left place = ps at *
  obtain ⟨ρ', e1, y7, e2⟩ := forD_all (h := tgName 7) (body := bd_ranked_1) (ps.map pD) (fun i ρ => ∃ y7, ρ = [some L, some (bD (addAll b (ps.take i))), some (.lst (left.map nD)), some O, x4, x5, some (nD place), y7]) [some L, some (bD b), some (.lst (left.map nD)), some O, x4, x5, some (nD place), x7] ⟨_, rfl⟩ (by
    rintro i d ρ hd ⟨y7, rfl⟩
    obtain ⟨p, hp, rfl⟩ := map_get hd
    obtain ⟨hi, _⟩ := List.getElem?_eq_some_iff.mp hp
    have h1 := addAll_len (ps.take i) b
    rw [List.length_take] at h1
    have h2 := set_bw (addAll b (ps.take i)) p (by omega)
    refine ⟨_, _, rfl, bowp_ev L _ _ O .non .non .non (pD p) _ h2 x4 x5 (some (nD place)), some (pD p), ?_⟩
    have : addAll b (ps.take (i + 1)) = addB (addAll b (ps.take i)) p := by
      unfold addAll
      rw [List.take_add_one, hp, List.foldl_append]
      rfl
    rw [this])
  rw [List.length_map, List.take_length] at e2
  refine ⟨y7, ?_⟩
  unfold l_ranked_1
  rw [sFor_ok (ds := ps.map pD) (by simp [e0]), e1, e2]
theorem turn_ev (L B B' Lf W O : D) (lf lf' ol : List D) (m p : D) (j : D) (x4 x5 x6 x7 y7 : Option D) (hLf : Lf = .lst lf) (hO : O = .lst ol) (e1 : c_ranked_1 [some L, some B, some Lf, some O, x4, x5, x6, x7] = .ok W) (hW : ∃ w, W = .lst w) (e2 : minS [W] = some m) (e3 : idxD W m = some j) (e4 : ixD Lf j = some p) (e5 : chk p = some p)
    (e6 : l_ranked_1 [some L, some B, some Lf, some O, some W, x5, some p, x7] = .nx [some L, some B', some Lf, some O, some W, x5, some p, y7]) (e7 : remS lf [p] = some lf') (hl : ol.length < SZ) :
    bd_ranked_2 [some L, some B, some Lf, some O, x4, x5, x6, x7] = .nx [some L, some B', some (.lst lf'), some (.lst (ol ++ [p])), some W, x5, some p, y7] := by
  obtain ⟨w, rfl⟩ := hW
  subst hLf hO
  have e3' : fIdx (fVar 4) (fS minS (fCons (fVar 4) fNil)) [some L, some B, some (.lst lf), some (.lst ol), some (.lst w), x5, x6, x7] = .ok j := by
    unfold fIdx
    simp [e2, e3]
  simp [bd_ranked_2, e1, e3', e4, e5, e6, e7, hl]
theorem wts_ev (L : D) (b : Bw) (left : List Nat) (O : D) (hl : left.length ≤ 500) (x4 x5 x6 x7 : Option D) : c_ranked_1 [some L, some (bD b), some (.lst (left.map nD)), some O, x4, x5, x6, x7] = .ok (.lst ((wts b left).map nD)) := by
  unfold wts
  rw [List.map_map]
  refine fLc_all nD left (nD ∘ fun p => (lackL b left p).length) ?_ (by rw [SZ_eq]; omega) fun p hp => ⟨_, rfl, ?_⟩
  · have im : immAll (left.map nD) = true := immAll_map (fun x => e_imm_n) left
    show ((R.ok (D.lst (left.map nD))).bind fun d => ofO (itm d)).bind immL = _
    show (if immAll (left.map nD) = true then R.ok (left.map nD) else R.no) = _
    rw [if_pos im]
  · have e0 := ev_lacking b left p hl
    generalize hB : bD b = B at *
    generalize hL : D.lst (left.map nD) = LL at *
    have e0' : callD 3 6 g_lacking [B, LL, .int p] = .ok (.lst ((lackL b left p).map pD)) := e0
    simp [nD, e0']
theorem rem_ev (left : List Nat) (p : Nat) (h : p ∈ left) : remS (left.map nD) [nD p] = some ((left.erase p).map nD) := by
  show (match intsOf (left.map nD) with
    | some ns => (remI (p : Int) ns).map fun ms : List Int => ms.map D.int
    | none => none) = _
  rw [ints_nats]
  simp only [rem_nat p left h, Option.map_some, List.map_map]
  rfl
theorem rank_go (L : D) : ∀ (n : Nat) (left : List Nat) (b : Bw) (ord : List Nat) (fuel : Nat) (x4 x5 x6 x7 : Option D), left.length = n → n ≤ 100 → n + 2 ≤ fuel → left.Pairwise (· < ·) → b.length + n * 10000 < 2000000 / 2 → ord.length + n ≤ 100 →
    ∃ (ord' : List Nat) (B' : D) (y4 y5 y6 y7 : Option D), Rk b left ord' ∧ whileD (f2 gtD (fS lenS (fCons (fVar 2) fNil)) (fC (.int 0))) bd_ranked_2 fuel [some L, some (bD b), some (.lst (left.map nD)), some (.lst (ord.map nD)), x4, x5, x6, x7] = .nx [some L, some B', some (.lst []), some (.lst ((ord ++ ord').map nD)), y4, y5, y6, y7] := by
  intro n
  induction n with
  | zero =>
    intro left b ord fuel x4 x5 x6 x7 hl _ hf _ _ _
    have : left = [] := List.eq_nil_of_length_eq_zero hl
    subst this
    obtain ⟨k, rfl⟩ : ∃ k, fuel = k + 1 := ⟨fuel - 1, by omega⟩
    refine ⟨[], bD b, x4, x5, x6, x7, .nil b, ?_⟩
    rw [List.append_nil]
    unfold whileD
    simp
  | succ n ih =>
    intro left b ord fuel x4 x5 x6 x7 hl hn hf hs hb ho
    obtain ⟨k, rfl⟩ : ∃ k, fuel = k + 1 := ⟨fuel - 1, by omega⟩
    have hne : wts b left ≠ [] := fun e => by
      have : (wts b left).length = n + 1 := by unfold wts; rw [List.length_map, hl]
      rw [e] at this; cases this
    obtain ⟨s1, s2⟩ := minN_spec _ hne
    obtain ⟨j, f1, f2', f3⟩ := fnd_nat _ _ s1
    have hj : j < left.length := by
      have := (List.getElem?_eq_some_iff.mp f2').1
      unfold wts at this
      rwa [List.length_map] at this
    have hp : left[j]? = some left[j] := List.getElem?_eq_getElem hj
    have lt := lt_of hs hp f2' f3
    generalize left[j] = p at *
    have w := wts_ev L b left (.lst (ord.map nD)) (by omega) x4 x5 x6 x7
    have mn := min_nats s1 s2
    have ix : idxD (.lst ((wts b left).map nD)) (.int (minN (wts b left))) = some (.int (j : Nat)) := by
      show (match intsOf ((wts b left).map nD) with
        | some ns => (fndI _ ns).map fun j => D.int (j : Nat)
        | none => none) = _
      rw [ints_nats]
      simp only [f1, Option.map_some]
    have at1 : ixD (.lst (left.map nD)) (.int (j : Nat)) = some (nD p) := by
      show atI (left.map nD) ((j : Nat) : Int) = _
      exact at_nat (by rw [List.getElem?_map, hp]; rfl)
    have hmul : left.length * left.length ≤ 10000 := by
      have : left.length ≤ 100 := by omega
      exact Nat.mul_le_mul this this
    obtain ⟨y7, bl⟩ := bowl_ev L b left (.lst (ord.map nD)) p (by omega) (by rw [SZ_eq]; omega) (some (.lst ((wts b left).map nD))) x5 x7
    have te := turn_ev L (bD b) _ (.lst (left.map nD)) _ (.lst (ord.map nD)) (left.map nD) _ (ord.map nD) _ (nD p) _ x4 x5 x6 x7 y7 rfl rfl w ⟨_, rfl⟩ mn ix at1 rfl bl (rem_ev left p lt.mem) (by rw [List.length_map, SZ_eq]; omega)
    have hle := lackL_len b left p
    have hal := addAll_len (lackL b left p) b
    obtain ⟨ord', B', y4, y5, y6, z7, r, e⟩ := ih (left.erase p) (addAll b (lackL b left p)) (ord ++ [p]) k (some (.lst ((wts b left).map nD))) x5 (some (nD p)) y7 (by rw [List.length_erase_of_mem lt.mem]; omega) (by omega) (by omega) (hs.sublist List.erase_sublist) (by omega) (by rw [List.length_append]; simp; omega)
    refine ⟨p :: ord', B', y4, y5, y6, z7, .cons lt r, ?_⟩
    have z1 : 0 < left.length := by omega
    have t1 : f2 gtD (fS lenS (fCons (fVar 2) fNil)) (fC (.int 0)) [some L, some (bD b), some (.lst (left.map nD)), some (.lst (ord.map nD)), x4, x5, x6, x7] = .ok true := by
      generalize bD b = B at *
      simp [z1]
    unfold whileD
    rw [t1, te]
    have e9 : (ord.map nD ++ [nD p]) = (ord ++ [p]).map nD := by simp
    simp only [e9]
    rw [e]
    simp
theorem ev_ranked (n : Nat) (rs : List Rd) (hn : n ≤ 16) (hl : rs.length ≤ 1000) : ∃ ord : List Nat, Rk (bows rs) (List.range n) ord ∧ callD 1 8 g_ranked [landD n rs] = .ok (.lst (ord.map nD)) := by
  have e1 := ev_bows_of n rs (by rw [SZ_eq]; omega)
  have hb : (bows rs).length ≤ rs.length := by
    unfold bows
    have key : ∀ (l : List Rd) (b : Bw), (l.foldl (fun b r => addB b (r.s, r.e)) b).length ≤ b.length + l.length := by
      intro l
      induction l with
      | nil => exact fun b => Nat.le_refl _
      | cons r l ih =>
        intro b
        have h1 := ih (addB b (r.s, r.e))
        have h2 := addB_len b (r.s, r.e)
        rw [List.foldl_cons, List.length_cons]; omega
    have := key (rs.filter fun r => r.l.isSome) []
    have h2 := List.length_filter_le (fun r : Rd => r.l.isSome) rs
    simp only [List.length_nil] at this
    omega
  obtain ⟨ord, B', y4, y5, y6, y7, r, e⟩ := rank_go (landD n rs) n (List.range n) (bows rs) [] 1000 none none none none List.length_range (by omega) (by omega) List.pairwise_lt_range (by omega) (by simp; omega)
  refine ⟨ord, r, ?_⟩
  have e2 : fLRange (f2 ixD (fVar 0) (fC (.int 0))) [some (landD n rs), some (bD (bows rs)), none, none, none, none, none, none] = .ok (.lst ((List.range n).map nD)) := by
    rw [e_fLRange (n := n) (by simp [landD]) (by omega) (by omega)]
    unfold rngD
    rw [Int.toNat_natCast]
    rfl
  have e : l_ranked_2 [some (landD n rs), some (bD (bows rs)), some (.lst ((List.range n).map nD)), some (.lst []), none, none, none, none] = .nx [some (landD n rs), some B', some (.lst []), some (.lst (ord.map nD)), y4, y5, y6, y7] := e
  rw [cd_ranked]
  generalize landD n rs = L at *
  generalize bD (bows rs) = B at *
  simp [g_ranked, e1, e2, e]
end Nl
set_option Elab.async false
set_option linter.all false
set_option maxRecDepth 100000
set_option maxHeartbeats 1000000
namespace Nl
open PySem L2 Pd
theorem sm_big {i : Int} (h0 : 0 ≤ i) (h1 : i < 1000000000000) : Big i := Big.of (Nat.lt_of_lt_of_le (show i.natAbs < 2 ^ 40 by omega) (Nat.pow_le_pow_right (by decide) (by decide)))
def mixC (m k : Int) : Int := (m * m + 69621 * k + 7) % 2147483587
def mixB (c k : Int) : Int := mixC ((c % 2147483629 + 48271 * (k + 1)) % 2147483647) k * mixC ((c % 2147483629 + 48271 * (k + 1)) % 2147483647) k % 2147483579
theorem mixB_0 (c k : Int) : 0 ≤ mixB c k := Int.emod_nonneg _ (by decide)
theorem mixB_1 (c k : Int) : mixB c k < 2147483579 := Int.emod_lt_of_pos _ (by decide)
theorem mixed_ev (c k m1 m2 m3 : Int) (h1 : (c % 2147483629 + 48271 * (k + 1)) % 2147483647 = m1) (h2 : (m1 * m1 + 69621 * k + 7) % 2147483587 = m2) (h3 : m2 * m2 % 2147483579 = m3) (b1 : mulD (.int 48271) (.int (k + 1)) = some (.int (48271 * (k + 1)))) (b2 : mulD (.int m1) (.int m1) = some (.int (m1 * m1))) (b3 : mulD (.int 69621) (.int k) = some (.int (69621 * k))) (b4 : mulD (.int m2) (.int m2) = some (.int (m2 * m2))) : callD 2 3 g__law_mixed [.int c, .int k] = .ok (.int m3) := by
  rw [cd__law_mixed]
  simp [g__law_mixed, b1, b2, b3, b4, h1, h2, h3]
theorem ev__law_mixed (c k : Int) (h0 : 0 ≤ k) (h1 : k ≤ 1000) : callD 2 3 g__law_mixed [.int c, .int k] = .ok (.int (mixB c k)) := by
  have a0 : 0 ≤ (c % 2147483629 + 48271 * (k + 1)) % 2147483647 := Int.emod_nonneg _ (by decide)
  have a1 : (c % 2147483629 + 48271 * (k + 1)) % 2147483647 < 2147483647 := Int.emod_lt_of_pos _ (by decide)
  have c0 : 0 ≤ mixC ((c % 2147483629 + 48271 * (k + 1)) % 2147483647) k := Int.emod_nonneg _ (by decide)
  have c1 : mixC ((c % 2147483629 + 48271 * (k + 1)) % 2147483647) k < 2147483587 := Int.emod_lt_of_pos _ (by decide)
  exact mixed_ev c k _ _ _ rfl rfl rfl (e_mul_int (Big.of (by decide)) (sm_big (by omega) (by omega))) (e_mul_int (sm_big a0 (by omega)) (sm_big a0 (by omega))) (e_mul_int (Big.of (by decide)) (sm_big h0 (by omega))) (e_mul_int (sm_big c0 (by omega)) (sm_big c0 (by omega)))
theorem othr_ne {m a x : Int} (hm : 1 < m) (h0 : 0 ≤ a) (h1 : a < m) (x0 : 0 ≤ x) (x1 : x < m - 1) : (a + 1 + x) % m ≠ a := by
  intro h
  by_cases k : a + 1 + x < m
  · rw [Int.emod_eq_of_lt (by omega) k] at h
    omega
  · have : (a + 1 + x) % m = a + 1 + x - m := by
      rw [← Int.sub_emod_right, Int.emod_eq_of_lt (by omega) (by omega)]
    omega
theorem road_ev (c M m m2 A B w : Int) (l : D) (e1 : callD 2 3 g__law_mixed [.int c, .int 1] = .ok (.int m)) (e2 : callD 2 3 g__law_mixed [.int c, .int 2] = .ok (.int m2)) (i1 : 1 < M) (i0 : 0 < M) (hA : m % M = A) (hB : (A + 1 + m / 16 % (M - 1)) % M = B) (d : Int) (hd0 : 0 < d) (hd : atI ([.int 5, .int 1000000000000000000000000000000000000000000000000000000000000] : List D) (c % 2) = some (.int d)) (hw : m2 % d = w)
    (hl : l = if m / 256 % 6 = 2 then D.int (m / 1536 % 101) else if m / 256 % 6 = 1 then D.int (c % 10 ^ 60) else if m / 256 % 6 = 0 then D.non else D.int (m / 1536 % 4)) : callD 2 7 g__law_road [.int c, .int M] = .ok (.tup [.int A, .int B, l, .int w]) := by
  have c16 : (16 : Int) < BIGD := by decide
  have c256 : (256 : Int) < BIGD := by decide
  have c1536 : (1536 : Int) < BIGD := by decide
  rw [cd__law_road]
  generalize hx : m / 256 % 6 = x at *
  by_cases h0 : x = 0
  · subst h0
    simp at hl
    subst hl
    simp [g__law_road, e1, e2, i0, i1, hA, hB, hx, c16, c256, c1536, hd, hd0, hw]
  by_cases h1 : x = 1
  · subst h1
    simp at hl
    subst hl
    simp [g__law_road, e1, e2, i0, i1, hA, hB, hx, c16, c256, c1536, hd, hd0, hw]
  by_cases h2 : x = 2
  · subst h2
    simp at hl
    subst hl
    simp [g__law_road, e1, e2, i0, i1, hA, hB, hx, c16, c256, c1536, hd, hd0, hw]
  · simp [h0, h1, h2] at hl
    subst hl
    simp [g__law_road, e1, e2, i0, i1, hA, hB, hx, h0, h1, h2, c16, c256, c1536, hd, hd0, hw]
end Nl
set_option Elab.async false
set_option linter.all false
set_option maxRecDepth 100000
set_option maxHeartbeats 1000000
namespace Nl
open PySem L2 Pd
theorem ev__law_road (c : Int) (h0 : 0 ≤ c) (h1 : c < 10 ^ 60) (M : Int) (hM : 1 < M) (hM2 : M ≤ 16) : ∃ r : Rd, callD 2 7 g__law_road [.int c, .int M] = .ok (rD r) ∧ Okm M.toNat [r] := by
  have e1 := ev__law_mixed c 1 (by decide) (by decide)
  have e2 := ev__law_mixed c 2 (by decide) (by decide)
  have m0 := mixB_0 c 1
  have m1 := mixB_1 c 1
  have k0 := mixB_0 c 2
  have k1 := mixB_1 c 2
  generalize mixB c 1 = m at *
  generalize mixB c 2 = m2 at *
  have o0 : 0 ≤ m % M := Int.emod_nonneg _ (by omega)
  have o1 : m % M < M := Int.emod_lt_of_pos _ (by omega)
  have p0 : 0 ≤ m / 16 % (M - 1) := Int.emod_nonneg _ (by omega)
  have p1 : m / 16 % (M - 1) < M - 1 := Int.emod_lt_of_pos _ (by omega)
  have q0 : 0 ≤ (m % M + 1 + m / 16 % (M - 1)) % M := Int.emod_nonneg _ (by omega)
  have q1 : (m % M + 1 + m / 16 % (M - 1)) % M < M := Int.emod_lt_of_pos _ (by omega)
  have ne := othr_ne hM o0 o1 p0 p1
  obtain ⟨dd, hd, ed⟩ := at_ex (xs := [.int 5, .int 1000000000000000000000000000000000000000000000000000000000000]) (i := c % 2) (by omega) (by simp; omega)
  obtain ⟨d, hd1, hd2, hd3⟩ : ∃ d : Int, dd = .int d ∧ 0 < d ∧ d ≤ 10 ^ 60 := by
    simp only [List.mem_cons, List.not_mem_nil, or_false] at hd
    rcases hd with h | h
    · exact ⟨_, h, by decide, by decide⟩
    · exact ⟨_, h, by decide, by decide⟩
  subst hd1
  have w0 : 0 ≤ m2 % d := Int.emod_nonneg _ (by omega)
  have w1 : m2 % d < d := Int.emod_lt_of_pos _ hd2
  obtain ⟨l, hl1, hl2⟩ : ∃ l : Option Int, (if m / 256 % 6 = 2 then D.int (m / 1536 % 101) else if m / 256 % 6 = 1 then D.int (c % 10 ^ 60) else if m / 256 % 6 = 0 then D.non else D.int (m / 1536 % 4)) = iD l ∧ ∀ z, l = some z → 0 ≤ z ∧ z < 10 ^ 60 := by
    split
    · exact ⟨some _, rfl, fun z h => by cases h; omega⟩
    · split
      · exact ⟨some _, rfl, fun z h => by cases h; exact ⟨Int.emod_nonneg _ (by decide), Int.emod_lt_of_pos _ (by decide)⟩⟩
      · split
        · exact ⟨none, rfl, fun z h => nomatch h⟩
        · exact ⟨some _, rfl, fun z h => by cases h; omega⟩
  have e := road_ev c M m m2 _ _ _ (iD l) e1 e2 hM (by omega) rfl rfl d hd2 ed rfl hl1.symm
  refine ⟨⟨(m % M).toNat, ((m % M + 1 + m / 16 % (M - 1)) % M).toNat, l, m2 % d⟩, ?_, Okm.one (show _ < M.toNat by simp only; omega) (show _ < M.toNat by simp only; omega) (by simp only; omega) hl2 ⟨w0, Int.lt_of_lt_of_le w1 hd3⟩⟩
  rw [e]
  unfold rD
  rw [Int.toNat_of_nonneg o0, Int.toNat_of_nonneg q0]
theorem ints_ints (l : List Int) : intsOf (l.map D.int) = some l := by
  induction l with
  | nil => rfl
  | cons a l ih => simp only [List.map_cons, intsOf, ih]
theorem map_ev1 (C H : D) (s K M : Int) (h1 : slD C none (some 1) = some H) (h2 : sumS [H] = some (.int s)) (hK : 0 < K) (hM : 1 + s % K = M) (i1 : ¬ 1 < M) : callD 2 6 g__law_map [C, .int K] = .ok (.tup [.int M, .lst []]) := by
  rw [cd__law_map]
  simp [g__law_map, h1, h2, hK, hM, i1]
theorem map_ev2 (C H : D) (s K M : Int) (rs : List D) (h1 : slD C none (some 1) = some H) (h2 : sumS [H] = some (.int s)) (hK : 0 < K) (hM : 1 + s % K = M) (i1 : 1 < M) (hc : c__law_map_1 [some C, some (.int K), some (.int s), some (.int M), some (.lst []), none] = .ok (.lst rs)) : callD 2 6 g__law_map [C, .int K] = .ok (.tup [.int M, .lst rs]) := by
  rw [cd__law_map]
  simp [g__law_map, h1, h2, hK, hM, i1, hc]
theorem okm_all {n : Nat} {rs : List Rd} (h : ∀ r ∈ rs, Okm n [r]) : Okm n rs := by
  have m : ∀ r : Rd, r ∈ [r] := fun r => List.mem_singleton.mpr rfl
  exact ⟨⟨fun r hr => (h r hr).s r (m r), fun r hr => (h r hr).e r (m r), fun r hr => (h r hr).l r (m r)⟩, fun r hr => (h r hr).ne r (m r), fun r hr => (h r hr).lb r (m r), fun r hr => (h r hr).w0 r (m r), fun r hr => (h r hr).wb r (m r)⟩
theorem ev__law_map (cells : List Int) (hc : ∀ c ∈ cells, 0 ≤ c ∧ c < 10 ^ 60) (K : Int) (hK : 1 ≤ K) (hK2 : K ≤ 16) : ∃ (n : Nat) (rs : List Rd), 1 ≤ n ∧ (n : Int) ≤ K ∧ rs.length ≤ 24 ∧ Okm n rs ∧ callD 2 6 g__law_map [.lst (cells.map D.int), .int K] = .ok (landD n rs) := by
  have h1 : slD (.lst (cells.map D.int)) none (some 1) = some (.lst ((cells.take 1).map D.int)) := by
    rw [e_sl_lst]
    have := cut_to (cells.map D.int) 1
    rw [show (1 : Int) = ((1 : Nat) : Int) from rfl, this, ← List.map_take]
  have h2 : sumS [.lst ((cells.take 1).map D.int)] = some (.int (cells.take 1).sum) := by
    show ((some ((cells.take 1).map D.int)).bind intsOf).map _ = _
    rw [Option.bind_some, ints_ints]
    rfl
  have s0 : 0 ≤ (cells.take 1).sum % K := Int.emod_nonneg _ (by omega)
  have s1 : (cells.take 1).sum % K < K := Int.emod_lt_of_pos _ (by omega)
  generalize (cells.take 1).sum = s at *
  obtain ⟨n, hn⟩ := Int.eq_ofNat_of_zero_le (show 0 ≤ 1 + s % K by omega)
  by_cases i1 : 1 < (n : Int)
  · obtain ⟨rs, l1, l2, l3⟩ := fLc_ex (fi := (fItm (fSl (fVar 0) (oSome (fC (.int 1))) (oSome (fC (.int 25)))))) (tg := tgName 5) (fe := (fCall (callD 2 7 g__law_road) [] (fCons (fVar 5) (fCons (fVar 3) fNil)))) (vs := [5]) (ρ := [some (.lst (cells.map D.int)), some (.int K), some (.int s), some (.int n), some (.lst []), none]) D.int rD ((cells.drop 1).take 24) (fun _ r => Okm n [r]) (by
        have := cut_mid (cells.map D.int) 1 25
        rw [← List.map_drop, ← List.map_take] at this
        have e : slD (.lst (cells.map D.int)) (some 1) (some 25) = some (.lst (((cells.drop 1).take 24).map D.int)) := by
          rw [e_sl_lst]; exact congrArg (fun z => some (D.lst z)) this
        generalize D.lst (cells.map D.int) = C at *
        generalize ((cells.drop 1).take 24).map D.int = L at *
        simp [e]) (by rw [List.length_take, SZ_eq]; omega) (fun z hz => by
        obtain ⟨z0, z1⟩ := hc z (List.mem_of_mem_drop (List.mem_of_mem_take hz))
        obtain ⟨r, r1, r2⟩ := ev__law_road z z0 z1 n i1 (by omega)
        rw [Int.toNat_natCast] at r2
        exact ⟨_, r, rfl, by simp [r1], r2⟩)
    refine ⟨n, rs, by omega, by omega, by rw [l1, List.length_take]; omega, okm_all fun r hr => ?_, ?_⟩
    · obtain ⟨i, hi⟩ := List.getElem?_of_mem hr
      obtain ⟨hlt, _⟩ := List.getElem?_eq_some_iff.mp hi
      obtain ⟨y, hy, hy2⟩ := l2 i _ (List.getElem?_eq_getElem (by rw [← l1]; exact hlt))
      rw [hi] at hy
      cases hy
      exact hy2
    · exact map_ev2 _ _ s K n _ h1 h2 (by omega) hn i1 l3
  · refine ⟨n, [], by omega, by omega, Nat.zero_le _, Okm.nil, ?_⟩
    exact map_ev1 _ _ s K n h1 h2 (by omega) hn i1
end Nl
set_option Elab.async false
set_option linter.all false
set_option maxRecDepth 100000
set_option maxHeartbeats 1000000
namespace Nl
open PySem L2 Pd
/-! an order by a number -/
abbrev ordst (N C O : D) (x3 : Option D) : Pd.Env := [some N, some C, some O, x3]
theorem ord_ev (N : D) (l l' : List D) (c k k1 m p : Int) (e1 : callD 2 3 g__law_mixed [.int c, .int k] = .ok (.int m)) (hk : k + 1 = k1) (h0 : 0 < k1) (hp : m % k1 = p) (hi : insS l [.int p, .int k] = some l') : bd__law_order_1 (ordst N (.int c) (.lst l) (some (.int k))) = .nx (ordst N (.int c) (.lst l') (some (.int k))) := by
  simp [bd__law_order_1, ordst, e1, hk, h0, hp, hi]
theorem ins_mem {l : List Nat} {k p : Nat} (h : Ordr k l) (hp : p ≤ k) : Ordr (k + 1) (l.take p ++ [k] ++ l.drop p) := by
  have hk : k ∉ l := fun z => Nat.lt_irrefl _ ((h.mem k).mp z)
  have e := List.take_append_drop p l
  have nd := h.nd
  rw [← e, List.nodup_append] at nd
  obtain ⟨n1, n2, n3⟩ := nd
  constructor
  · rw [List.nodup_append]
    refine ⟨?_, n2, fun a ha b hb => ?_⟩
    · rw [List.nodup_append]
      exact ⟨n1, by simp, fun a ha b hb => by
        rw [List.mem_singleton] at hb
        rw [hb]
        exact fun z => hk (by rw [← z]; exact List.mem_of_mem_take ha)⟩
    · rcases List.mem_append.mp ha with ha | ha
      · exact n3 a ha b hb
      · rw [List.mem_singleton] at ha
        rw [ha]
        exact fun z => hk (by rw [z]; exact List.mem_of_mem_drop hb)
  · intro x
    have : x ∈ l ↔ x ∈ l.take p ∨ x ∈ l.drop p := by
      conv => lhs; rw [← e]
      exact List.mem_append
    have m := h.mem x
    rw [this] at m
    simp only [List.mem_append, List.mem_singleton]
    constructor
    · rintro ((z | z) | z)
      · have := m.mp (.inl z); omega
      · omega
      · have := m.mp (.inr z); omega
    · intro z
      by_cases e : x = k
      · exact .inl (.inr e)
      · rcases m.mpr (by omega) with z | z
        · exact .inl (.inl z)
        · exact .inr z
theorem ev__law_order (n : Nat) (hn : n ≤ 1000) (c : Int) : ∃ ord, Ordr n ord ∧ callD 2 4 g__law_order [nD n, .int c] = .ok (.lst (ord.map nD)) := by
  obtain ⟨ρ', e1, l, x3, e2, e3⟩ := forD_all (h := tgName 3) (body := bd__law_order_1) (rngD n) (fun i ρ => ∃ l x3, Ordr i l ∧ ρ = ordst (nD n) (.int c) (.lst (l.map nD)) x3) (ordst (nD n) (.int c) (.lst []) none) ⟨[], none, ⟨List.nodup_nil, fun x => by simp⟩, rfl⟩ (by
    rintro i d ρ hd ⟨l, x3, ol, rfl⟩
    obtain ⟨hi, rfl⟩ := rng_get hd
    have e := ev__law_mixed c i (by omega) (by omega)
    have m0 := mixB_0 c i
    generalize mixB c i = m at *
    have p0 : 0 ≤ m % ((i : Int) + 1) := Int.emod_nonneg _ (by omega)
    have p1 : m % ((i : Int) + 1) < (i : Int) + 1 := Int.emod_lt_of_pos _ (by omega)
    obtain ⟨p, hp⟩ := Int.eq_ofNat_of_zero_le p0
    have hl : (l.map nD).length < SZ := by rw [List.length_map, ol.len, SZ_eq]; omega
    have ins : insS (l.map nD) [.int p, .int i] = some ((l.take p ++ [i] ++ l.drop p).map nD) := by
      show (if (l.map nD).length < SZ ∧ 0 ≤ (p : Int) ∧ (p : Int) < 1000000 then some ((l.map nD).take (p : Int).toNat ++ [.int i] ++ (l.map nD).drop (p : Int).toNat) else none) = _
      rw [if_pos ⟨hl, by omega, by omega⟩]
      simp [List.map_take, List.map_drop, nD]
    exact ⟨_, _, rfl, ord_ev (nD n) (l.map nD) _ c i _ m p e rfl (by omega) hp ins, _, _, ins_mem ol (by omega), rfl⟩)
  rw [rng_len, Int.toNat_natCast] at e2
  refine ⟨l, e2, ?_⟩
  have h : l__law_order_1 (ordst (nD n) (.int c) (.lst []) none) = .nx ρ' := by
    unfold l__law_order_1
    rw [sFor_ok (ds := rngD n) (e_fRange rfl (by omega) (by omega)), e1]
  rw [cd__law_order]
  simp only [ordst, e3] at h
  simp [g__law_order, h]
end Nl
set_option Elab.async false
set_option linter.all false
set_option maxRecDepth 100000
set_option maxHeartbeats 1000000
namespace Nl
open PySem L2 Pd
/-! what a map is -/
abbrev N60 : Int := 1000000000000000000000000000000000000000000000000000000000000
def isNm : D → Bool
  | .int i => decide (0 ≤ i ∧ i < N60)
  | _ => false
theorem ev_is_number (x : D) (hx : tyN x ≠ none) : callD 1 1 g_is_number [x] = .ok (.bl (isNm x)) := by
  rw [cd_is_number]
  cases x with
  | int i =>
    simp [g_is_number, isNm]
    by_cases h : 0 ≤ i <;> simp [h]
  | bl b => simp [g_is_number, isNm]
  | non => simp [g_is_number, isNm]
  | str s => simp [g_is_number, isNm, isInt]
  | tup xs => simp [g_is_number, isNm, isInt]
  | lst xs => simp [g_is_number, isNm, isInt]
  | fz xs => simp [g_is_number, isNm, isInt, tyN]
  | dK ks vs => simp [g_is_number, isNm, isInt]
  | dT ks vs => simp [g_is_number, isNm, isInt]
  | ins c ns vs => exact absurd rfl hx
  | exc c => exact absurd rfl hx
def isLn (x : D) : Bool := isNon x || isNm x
theorem ev_is_length (x : D) (hx : tyN x ≠ none) : callD 1 1 g_is_length [x] = .ok (.bl (isLn x)) := by
  have e := ev_is_number x hx
  rw [cd_is_length]
  unfold isLn
  generalize isNm x = b at *
  simp [g_is_length, e]
  cases isNon x <;> rfl
def rdOk (M : Int) : D → Bool
  | .tup [.int a, .int b, l, .int w] => isNm (.int a) && (isNm (.int b) && (isNm (.int w) && (decide (a < M) && (decide (b < M) && (!decide (a = b) && isLn l)))))
  | _ => false
def TyR (d : D) : Prop := tyN d ≠ none ∧ ∀ s e l w, d = .tup [s, e, l, w] → tyN s ≠ none ∧ tyN e ≠ none ∧ tyN l ≠ none ∧ tyN w ≠ none
theorem isNm_int {x : D} (h : isNm x = true) : ∃ i, x = .int i := by
  cases x <;> first | exact ⟨_, rfl⟩ | cases h
theorem rd_kind (x : D) (M : Int) (t : String) (h : tyN x = some t) (h2 : isTup x = false) : callD 2 6 g_is_road [x, .int M] = .ok (.bl false) := by
  rw [cd_is_road]
  simp [g_is_road, h, h2]
theorem rd_len (xs : List D) (M : Int) (h : xs.length ≠ 4) : callD 2 6 g_is_road [.tup xs, .int M] = .ok (.bl false) := by
  have h2 : ¬ (xs.length : Int) = 4 := by omega
  rw [cd_is_road]
  simp [g_is_road, h2]
theorem rd_bad (s e l w : D) (M : Int) (bs be bw : Bool) (h1 : callD 1 1 g_is_number [s] = .ok (.bl bs)) (h2 : callD 1 1 g_is_number [e] = .ok (.bl be)) (h3 : callD 1 1 g_is_number [w] = .ok (.bl bw)) (hb : (bs && (be && bw)) = false) : callD 2 6 g_is_road [.tup [s, e, l, w], .int M] = .ok (.bl false) := by
  rw [cd_is_road]
  cases bs with
  | false => simp [g_is_road, h1]
  | true => cases be with
    | false => simp [g_is_road, h1, h2]
    | true => cases bw with
      | false => simp [g_is_road, h1, h2, h3]
      | true => cases hb
theorem rd_good (a b w M : Int) (l : D) (bl : Bool) (h1 : callD 1 1 g_is_number [.int a] = .ok (.bl true)) (h2 : callD 1 1 g_is_number [.int b] = .ok (.bl true)) (h3 : callD 1 1 g_is_number [.int w] = .ok (.bl true)) (h4 : callD 1 1 g_is_length [l] = .ok (.bl bl)) : callD 2 6 g_is_road [.tup [.int a, .int b, l, .int w], .int M] = .ok (.bl (decide (a < M) && (decide (b < M) && (!decide (a = b) && bl)))) := by
  rw [cd_is_road]
  simp [g_is_road, h1, h2, h3, h4]
  by_cases c1 : a < M
  · by_cases c2 : b < M
    · by_cases c3 : a = b
      · simp [c1, c2, c3]
      · simp [c1, c2, c3]
    · simp [c1, c2]
  · simp [c1]
theorem ev_is_road (x : D) (M : Int) (hx : TyR x) : callD 2 6 g_is_road [x, .int M] = .ok (.bl (rdOk M x)) := by
  obtain ⟨t, ht⟩ := Option.ne_none_iff_exists'.mp hx.1
  cases x with
  | tup xs =>
    by_cases h : xs.length = 4
    · match xs, h with
      | [s, e, l, w], _ =>
        obtain ⟨t1, t2, t3, t4⟩ := hx.2 s e l w rfl
        have e1 := ev_is_number s t1
        have e2 := ev_is_number e t2
        have e3 := ev_is_number w t4
        have e4 := ev_is_length l t3
        by_cases hb : (isNm s && (isNm e && isNm w)) = true
        · have hb' := hb
          rw [Bool.and_eq_true, Bool.and_eq_true] at hb
          obtain ⟨b1, b2, b3⟩ := hb
          obtain ⟨a, rfl⟩ := isNm_int b1
          obtain ⟨b, rfl⟩ := isNm_int b2
          obtain ⟨c, rfl⟩ := isNm_int b3
          rw [b1] at e1
          rw [b2] at e2
          rw [b3] at e3
          rw [rd_good a b c M l _ e1 e2 e3 e4]
          show _ = R.ok (D.bl (isNm (.int a) && (isNm (.int b) && (isNm (.int c) && (decide (a < M) && (decide (b < M) && (!decide (a = b) && isLn l)))))))
          rw [b1, b2, b3]
          simp
        · rw [Bool.not_eq_true] at hb
          rw [rd_bad s e l w M _ _ _ e1 e2 e3 hb]
          unfold rdOk
          split
          · rename_i a b l' c heq
            cases heq
            have : ∀ z : Bool, (isNm (.int a) && (isNm (.int b) && (isNm (.int c) && z))) = false := fun z => by
              revert hb
              cases isNm (.int a) <;> cases isNm (.int b) <;> cases isNm (.int c) <;> simp
            rw [this]
          · rfl
    · rw [rd_len xs M h]
      unfold rdOk
      split
      · rename_i heq
        cases heq
        exact absurd rfl h
      · rfl
  | ins c ns vs => cases ht
  | exc c => cases ht
  | _ => exact rd_kind _ M t ht rfl
/-! maps -/
theorem mp_kind (x : D) (t : String) (h : tyN x = some t) (h2 : isTup x = false) : callD 1 4 g_is_map [x] = .ok (.bl false) := by
  rw [cd_is_map]
  simp [g_is_map, h, h2]
theorem mp_len (xs : List D) (h : xs.length ≠ 2) : callD 1 4 g_is_map [.tup xs] = .ok (.bl false) := by
  have h2 : ¬ (xs.length : Int) = 2 := by omega
  rw [cd_is_map]
  simp [g_is_map, h2]
theorem mp_num (m R : D) (hm : tyN m ≠ none) (h : isNm m = false) : callD 1 4 g_is_map [.tup [m, R]] = .ok (.bl false) := by
  have e := ev_is_number m hm
  rw [h] at e
  rw [cd_is_map]
  simp [g_is_map, e]
theorem mp_rng (M : Int) (R : D) (h : ¬ (1 ≤ M ∧ M ≤ 16)) : callD 1 4 g_is_map [.tup [.int M, R]] = .ok (.bl false) := by
  have e := ev_is_number (.int M) (fun z => nomatch z)
  rw [cd_is_map]
  generalize isNm (.int M) = b at e
  cases b with
  | false => simp [g_is_map, e]
  | true =>
    by_cases h1 : 1 ≤ M
    · have h2 : ¬ M ≤ 16 := fun z => h ⟨h1, z⟩
      simp [g_is_map, e, h1, h2]
    · simp [g_is_map, e, h1]
theorem num_rng {M : Int} (h1 : 1 ≤ M) (h2 : M ≤ 16) : callD 1 1 g_is_number [.int M] = .ok (.bl true) := by
  rw [ev_is_number (.int M) (fun z => nomatch z)]
  have : isNm (.int M) = true := by
    show decide (0 ≤ M ∧ M < N60) = true
    rw [decide_eq_true_eq]
    have : (100 : Int) < N60 := by decide
    omega
  rw [this]
theorem mp_lst (M : Int) (R : D) (t : String) (h1 : 1 ≤ M) (h2 : M ≤ 16) (h : tyN R = some t) (hR : isLst R = false) : callD 1 4 g_is_map [.tup [.int M, R]] = .ok (.bl false) := by
  have e := num_rng h1 h2
  rw [cd_is_map]
  simp [g_is_map, e, h1, h2, h, hR]
theorem mp_many (M : Int) (ds : List D) (h1 : 1 ≤ M) (h2 : M ≤ 16) (h : 60 < ds.length) : callD 1 4 g_is_map [.tup [.int M, .lst ds]] = .ok (.bl false) := by
  have e := num_rng h1 h2
  have h3 : (60 : Int) < (ds.length : Int) := by omega
  rw [cd_is_map]
  generalize hl : (ds.length : Int) = L at *
  have hlen : lenS [.lst ds] = some (.int L) := by rw [← hl]; rfl
  simp [g_is_map, e, h1, h2, hlen, h3, -e_len]
theorem mp_all0 (M L : Int) (R : D) (b : Bool) (bs : D) (h1 : 1 ≤ M) (h2 : M ≤ 16) (t : String) (ht : tyN R = some t) (hR : isLst R = true) (hlen : lenS [R] = some (.int L)) (h3 : ¬ 60 < L) (hc : c_is_map_1 [some (.tup [.int M, R]), some (.int M), some R, none] = .ok bs) (ha : allS [bs] = some (.bl b)) : callD 1 4 g_is_map [.tup [.int M, R]] = .ok (.bl b) := by
  have e := num_rng h1 h2
  rw [cd_is_map]
  simp [g_is_map, e, h1, h2, ht, hR, hlen, h3, hc, ha]
theorem bols_bl (l : List Bool) : bolsOf (l.map D.bl) = some l := by
  induction l with
  | nil => rfl
  | cons a l ih => simp only [List.map_cons, bolsOf, ih]
theorem mp_all (M : Int) (ds : List D) (h1 : 1 ≤ M) (h2 : M ≤ 16) (h : ds.length ≤ 60) (ty : ∀ d ∈ ds, TyR d) : callD 1 4 g_is_map [.tup [.int M, .lst ds]] = .ok (.bl (ds.all (rdOk M))) := by
  refine mp_all0 M ds.length (.lst ds) _ (.lst (ds.map fun d => .bl (rdOk M d))) h1 h2 "list" rfl rfl rfl (by omega) ?_ ?_
  · refine fLc_all (fun d => d) ds (fun d => .bl (rdOk M d)) (by rw [List.map_id']; rfl) (by rw [SZ_eq]; omega) fun d hd => ⟨_, rfl, ?_⟩
    have e := ev_is_road d M (ty d hd)
    generalize rdOk M d = b at *
    simp [e]
  · show ((some (ds.map fun d => D.bl (rdOk M d))).bind bolsOf).map _ = _
    rw [Option.bind_some, show (ds.map fun d => D.bl (rdOk M d)) = (ds.map (rdOk M)).map D.bl by rw [List.map_map]; rfl, bols_bl]
    show some (D.bl ((ds.map (rdOk M)).all id)) = _
    rw [List.all_map]
    rfl
theorem tyR_rD (r : Rd) : TyR (rD r) := ⟨(fun h => nomatch h), fun s e l w h => by
  unfold rD at h
  injection h with h
  injection h with h1 h
  injection h with h2 h
  injection h with h3 h
  injection h with h4 h
  subst h1 h2 h3 h4
  refine ⟨(fun h => nomatch h), (fun h => nomatch h), ?_, (fun h => nomatch h)⟩
  cases r.l <;> exact fun h => nomatch h⟩
theorem isNm_of {i : Int} (h0 : 0 ≤ i) (h1 : i < N60) : isNm (.int i) = true := decide_eq_true ⟨h0, h1⟩
theorem e60 : (10 : Int) ^ 60 = N60 := by decide
theorem lt60 {z : Int} (h : z < 10 ^ 60) : z < N60 := by rw [← e60]; exact h
theorem rdOk_eq (a b w M : Int) (l : D) : rdOk M (.tup [.int a, .int b, l, .int w]) = (isNm (.int a) && (isNm (.int b) && (isNm (.int w) && (decide (a < M) && (decide (b < M) && (!decide (a = b) && isLn l)))))) := rfl
theorem and7 {a b c d e f g : Bool} (h1 : a = true) (h2 : b = true) (h3 : c = true) (h4 : d = true) (h5 : e = true) (h6 : f = true) (h7 : g = true) : (a && (b && (c && (d && (e && (f && g)))))) = true := by
  subst h1 h2 h3 h4 h5 h6 h7; rfl
theorem rdOk_rD {n : Nat} (hn : n ≤ 16) {rs : List Rd} (o : Okm n rs) {r : Rd} (hr : r ∈ rs) : rdOk n (rD r) = true := by
  have k : (100 : Int) < N60 := by decide
  have h1 := o.s r hr
  have h2 := o.e r hr
  have h3 := o.ne r hr
  have w0 := o.w0 r hr
  have w1 := o.wb r hr
  have l1 : isLn (iD r.l) = true := by
    cases hl : r.l with
    | none => rfl
    | some z =>
      show (false || isNm (.int z)) = true
      rw [isNm_of (o.l r hr z hl) (lt60 (o.lb r hr z hl))]
      rfl
  unfold rD
  rw [rdOk_eq]
  exact and7 (isNm_of (by omega) (by omega)) (isNm_of (by omega) (by omega)) (isNm_of w0 (lt60 w1)) (decide_eq_true (show (r.s : Int) < n by omega)) (decide_eq_true (show (r.e : Int) < n by omega)) (by rw [decide_eq_false (show ¬ (r.s : Int) = r.e by omega)]; rfl) l1
theorem ev_is_map {n : Nat} (n1 : 1 ≤ n) (n2 : n ≤ 16) {rs : List Rd} (o : Okm n rs) (hl : rs.length ≤ 60) : callD 1 4 g_is_map [landD n rs] = .ok (.bl true) := by
  have := mp_all n (rs.map rD) (by omega) (by omega) (by rw [List.length_map]; exact hl) fun d hd => by
    obtain ⟨r, _, rfl⟩ := List.mem_map.mp hd
    exact tyR_rD r
  have h : (rs.map rD).all (rdOk n) = true := by
    rw [List.all_eq_true]
    intro d hd
    obtain ⟨r, hr, rfl⟩ := List.mem_map.mp hd
    exact rdOk_rD n2 o hr
  rw [h] at this
  exact this
theorem ck_ok (m : D) (ds : List D) (hm : imm m = true) (h : callD 1 4 g_is_map [.tup [m, .lst ds]] = .ok (.bl true)) (hi : immAll ds = true) : callD 1 1 g_checked [.tup [m, .lst ds]] = .ok (.tup [m, .lst ds]) := by
  rw [cd_checked]
  simp [g_checked, h, hi, chk_imm hm]
theorem ck_no (x : D) (h : callD 1 4 g_is_map [x] = .ok (.bl false)) : callD 1 1 g_checked [x] = .exc "NoMap" := by
  rw [cd_checked]
  simp [g_checked, h]
theorem ev_checked {n : Nat} (n1 : 1 ≤ n) (n2 : n ≤ 16) {rs : List Rd} (o : Okm n rs) (hl : rs.length ≤ 60) : callD 1 1 g_checked [landD n rs] = .ok (landD n rs) := by
  have := ev_is_map n1 n2 o hl
  unfold landD at *
  exact ck_ok _ _ rfl this (immAll_map (fun _ => e_imm_r) _)
end Nl
set_option Elab.async false
set_option linter.all false
set_option maxRecDepth 100000
set_option maxHeartbeats 1000000
namespace Nl
open PySem L2 Pd
/-! orders checked -/
def isPl (n : Int) : D → Bool
  | .int i => decide (0 ≤ i ∧ i < n)
  | _ => false
theorem ev_is_place (n : Int) (rl x : D) (hx : tyN x ≠ none) : callD 2 2 g_is_place [.tup [.int n, rl], x] = .ok (.bl (isPl n x)) := by
  rw [cd_is_place]
  cases x with
  | int i =>
    simp [g_is_place, isPl]
    by_cases h : 0 ≤ i <;> simp [h]
  | bl b => simp [g_is_place, isPl]
  | non => simp [g_is_place, isPl]
  | str s => simp [g_is_place, isPl, isInt]
  | tup xs => simp [g_is_place, isPl, isInt]
  | lst xs => simp [g_is_place, isPl, isInt]
  | fz xs => simp [g_is_place, isPl, isInt, tyN]
  | dK ks vs => simp [g_is_place, isPl, isInt]
  | dT ks vs => simp [g_is_place, isPl, isInt]
  | ins c ns vs => exact absurd rfl hx
  | exc c => exact absurd rfl hx
abbrev ckst (L T F : D) (x3 : Option D) : Pd.Env := [some L, some T, some F, x3]
theorem ck_good (L T x : D) (F : List D) (h : callD 2 2 g_is_place [L, x] = .ok (.bl true)) (hi : inD x (.lst F) = some false) (him : imm x = true) (hl : F.length < SZ) : bd_checked_order_1 (ckst L T (.lst F) (some x)) = .nx (ckst L T (.lst (F ++ [x])) (some x)) := by
  simp [bd_checked_order_1, ckst, h, hi, chk_imm him, hl]
theorem ck_bad1 (L T x : D) (F : List D) (h : callD 2 2 g_is_place [L, x] = .ok (.bl false)) : bd_checked_order_1 (ckst L T (.lst F) (some x)) = .ex "NoOrder" (ckst L T (.lst F) (some x)) := by
  simp [bd_checked_order_1, ckst, h]
theorem ck_bad2 (L T x : D) (F : List D) (h : callD 2 2 g_is_place [L, x] = .ok (.bl true)) (hi : inD x (.lst F) = some true) : bd_checked_order_1 (ckst L T (.lst F) (some x)) = .ex "NoOrder" (ckst L T (.lst F) (some x)) := by
  simp [bd_checked_order_1, ckst, h, hi]
theorem pl_nat (n k : Nat) (h : k < n) : isPl (n : Int) (nD k) = true := by
  show decide (0 ≤ (k : Int) ∧ (k : Int) < n) = true
  rw [decide_eq_true_eq]
  omega
theorem tyN_nD (k : Nat) : tyN (nD k) ≠ none := fun h => nomatch h
theorem ck_end (L T : D) (F : List D) (x3 : Option D) (n : Int) (hL : ixD L (.int 0) = some (.int n)) (ds : List D) (hT : T = .lst ds) (hn : (ds.length : Int) = n) (r : SR) (hl : l_checked_order_1 (ckst L T (.lst []) none) = r) : callD 2 4 g_checked_order [L, T] = (r.then (sRet (fVar 2))).fin := by
  subst hT
  rw [cd_checked_order]
  have hl' : l_checked_order_1 [some L, some (.lst ds), some (.lst []), none] = r := hl
  simp [g_checked_order, hL, hn, hl']
theorem ck_step (n : Nat) (hn : n ≤ 900) (rl T : D) (l : List Nat) (i k : Nat) (hk : l[i]? = some k) (nd : l.Nodup) (lt : ∀ x ∈ l, x < n) (hlen : l.length ≤ n) (x3 : Option D) : bd_checked_order_1 (ckst (.tup [.int n, rl]) T (.lst ((l.take i).map nD)) (some (nD k))) = .nx (ckst (.tup [.int n, rl]) T (.lst ((l.take (i + 1)).map nD)) (some (nD k))) := by
  have hi := (List.getElem?_eq_some_iff.mp hk).1
  have hm := List.mem_of_getElem? hk
  have e := ev_is_place n rl (nD k) (tyN_nD k)
  rw [pl_nat n k (lt k hm)] at e
  have ni : k ∉ l.take i := fun h => by
    obtain ⟨j, hj, e2⟩ := List.mem_iff_getElem.mp h
    rw [List.getElem_take] at e2
    have e3 := (List.getElem?_eq_some_iff.mp hk).2
    rw [List.length_take] at hj
    have := (List.getElem_inj nd).mp (e2.trans e3.symm)
    omega
  have hin := in_nats' (l.take i) k
  rw [decide_eq_false ni] at hin
  have g := ck_good (.tup [.int n, rl]) T (nD k) ((l.take i).map nD) e hin rfl (by rw [List.length_map, List.length_take, SZ_eq]; omega)
  rw [List.take_add_one, hk, Option.toList_some, List.map_append]
  exact g
theorem ev_checked_order (n : Nat) (hn : n ≤ 900) (rl : D) (l : List Nat) (ol : Ordr n l) : callD 2 4 g_checked_order [.tup [.int n, rl], .lst (l.map nD)] = .ok (.lst (l.map nD)) := by
  obtain ⟨ρ', e1, x3, e2⟩ := forD_all (h := tgName 3) (body := bd_checked_order_1) (l.map nD) (fun i ρ => ∃ x3, ρ = ckst (.tup [.int n, rl]) (.lst (l.map nD)) (.lst ((l.take i).map nD)) x3) (ckst (.tup [.int n, rl]) (.lst (l.map nD)) (.lst []) none) ⟨none, rfl⟩ (by
    rintro i d ρ hd ⟨x3, rfl⟩
    obtain ⟨k, hk, rfl⟩ := map_get hd
    exact ⟨_, _, rfl, ck_step n hn rl _ l i k hk ol.nd (fun x hx => (ol.mem x).mp hx) (Nat.le_of_eq ol.len) x3, _, rfl⟩)
  have h : l_checked_order_1 (ckst (.tup [.int n, rl]) (.lst (l.map nD)) (.lst []) none) = .nx ρ' := by
    unfold l_checked_order_1
    rw [sFor_ok (ds := l.map nD) rfl, e1]
  rw [ck_end _ _ (l.map nD) none n rfl (l.map nD) rfl (by rw [List.length_map, ol.len]) _ h, e2, List.length_map, List.take_length]
  rfl
end Nl
set_option Elab.async false
set_option linter.all false
set_option maxRecDepth 100000
set_option maxHeartbeats 1000000
namespace Nl
open PySem L2 Pd
/-! ### a ladder made -/
abbrev fbst (I F : D) (x2 x3 x4 : Option D) : Pd.Env := [some I, some F, x2, x3, x4]
theorem fb_no (I A F u w : D) (x3 : Option D) (hA : fldD fl_laid "laid" I = some A) (h : inD (.tup [u, w]) A = some false) : bd_Ladder_found_best_1 (fbst I F (some u) x3 (some w)) = .nx (fbst I F (some u) x3 (some w)) := by
  simp [bd_Ladder_found_best_1, fbst, hA, h]
theorem fb_yes (I A u w Cs c d : D) (l : List D) (b : Bool) (hA : fldD fl_laid "laid" I = some A) (h : inD (.tup [u, w]) A = some true) (ix : ixD A (.tup [u, w]) = some c) (ic : ixD Cs w = some d) (q : leD c d = some b) (hl : l.length < SZ) (cu : chk u = some u) (cw : chk w = some w) : bd_Ladder_found_best_1 (fbst I (.lst l) (some u) (some Cs) (some w)) = .nx (fbst I (.lst (if b = true then l ++ [.tup [u, w]] else l)) (some u) (some Cs) (some w)) := by
  cases b
  · simp [bd_Ladder_found_best_1, fbst, hA, h, ix, ic, q]
  · simp [bd_Ladder_found_best_1, fbst, hA, h, ix, ic, q, hl, cu, cw]
theorem fb_one {n : Nat} {rs : List Rd} (o : Okm n rs) {ord : List Nat} (ho : Ordr n ord) (I : D) (hA : fldD fl_laid "laid" I = some (pA cD (acs rs ord))) (l : List Pr) (hl : l.length < SZ) (u w : Nat) (hw : w < n) : bd_Ladder_found_best_1 (fbst I (.lst (l.map pD)) (some (nD u)) (some (.lst ((dl o.toOk u).map oD))) (some (nD w))) = .nx (fbst I (.lst ((if kpb o ord u w = true then l ++ [(u, w)] else l).map pD)) (some (nD u)) (some (.lst ((dl o.toOk u).map oD))) (some (nD w))) := by
  have hi := in_pA (em := cD) (acs rs ord) (u, w)
  have ix := ix_pA (em := cD) (acs rs ord) (u, w)
  cases hc : alG (acs rs ord) (u, w) with
  | none =>
    rw [hc] at hi
    have hk : kpb o ord u w = false := by
      unfold kpb
      rw [hc]
      rfl
    rw [hk]
    exact fb_no I _ _ _ _ _ hA hi
  | some c =>
    rw [hc] at hi ix
    obtain ⟨d, hd, hk⟩ := arc_le o ho hc
    have ic : ixD (.lst ((dl o.toOk u).map oD)) (nD w) = some (cD d) := by
      show atI _ (w : Int) = _
      refine at_nat ?_
      rw [List.getElem?_map, dl_at _ _ hw, hd]
      rfl
    have q := le_cD c d
    rw [hk] at q
    rw [fb_yes I _ (nD u) (nD w) _ _ _ _ _ hA hi ix ic q (by rw [List.length_map]; exact hl) rfl rfl]
    congr 4
    split
    · rw [List.map_append]; rfl
    · rfl
theorem fb_row {n : Nat} {rs : List Rd} (o : Okm n rs) (hn : n ≤ 900) {ord : List Nat} (ho : Ordr n ord) (I : D) (hA : fldD fl_laid "laid" I = some (pA cD (acs rs ord))) (rl : D) (hL : fldD fl_land "land" I = some (.tup [.int n, rl])) (e : callD 2 6 g_costs_from [.tup [.int n, rl], nD u] = .ok (.lst ((dl o.toOk u).map oD))) (l : List Pr) (hl : l.length + n < SZ) (x3 x4 : Option D) :
    ∃ y3 y4, bd_Ladder_found_best_2 (fbst I (.lst (l.map pD)) (some (nD u)) x3 x4) = .nx (fbst I (.lst ((l ++ ((List.range n).filter (kpb o ord u)).map fun w => (u, w)).map pD)) (some (nD u)) y3 y4) := by
  obtain ⟨ρ', e1, y4, e2⟩ := forD_all (h := tgName 4) (body := bd_Ladder_found_best_1) (rngD n) (fun i ρ => ∃ y4, ρ = fbst I (.lst ((l ++ (((List.range n).take i).filter (kpb o ord u)).map fun w => (u, w)).map pD)) (some (nD u)) (some (.lst ((dl o.toOk u).map oD))) y4) (fbst I (.lst (l.map pD)) (some (nD u)) (some (.lst ((dl o.toOk u).map oD))) x4) ⟨x4, by simp⟩ (by
    rintro i d ρ hd ⟨y4, rfl⟩
    obtain ⟨hi, rfl⟩ := rng_get hd
    have hi : i < n := by omega
    have hk : (l ++ (((List.range n).take i).filter (kpb o ord u)).map fun w => ((u, w) : Pr)).length < SZ := by
      rw [List.length_append, List.length_map]
      have h1 : (((List.range n).take i).filter (kpb o ord u)).length ≤ n := Nat.le_trans (List.length_filter_le _ _) (by rw [List.length_take]; omega)
      omega
    refine ⟨_, _, rfl, fb_one o ho I hA _ hk u i hi, some (nD i), ?_⟩
    have : (l ++ (((List.range n).take (i + 1)).filter (kpb o ord u)).map fun w => ((u, w) : Pr)) = if kpb o ord u i = true then (l ++ (((List.range n).take i).filter (kpb o ord u)).map fun w => (u, w)) ++ [(u, i)] else l ++ (((List.range n).take i).filter (kpb o ord u)).map fun w => (u, w) := by
      rw [List.take_add_one, List.getElem?_range hi, Option.toList_some, List.filter_append]
      by_cases h : kpb o ord u i = true <;> simp [h]
    rw [this])
  rw [rng_len, show ((n : Int)).toNat = n from rfl, List.take_of_length_le (by simp)] at e2
  have h : l_Ladder_found_best_1 (fbst I (.lst (l.map pD)) (some (nD u)) (some (.lst ((dl o.toOk u).map oD))) x4) = .nx ρ' := by
    unfold l_Ladder_found_best_1
    have r : fRange (f2 ixD (f1 (fldD fl_land "land") (fVar 0)) (fC (.int 0))) (fbst I (.lst (l.map pD)) (some (nD u)) (some (.lst ((dl o.toOk u).map oD))) x4) = .ok (rngD n) := e_fRange (by simp [fbst, hL]) (by omega) (by omega)
    rw [sFor_ok r, e1]
  refine ⟨some (.lst ((dl o.toOk u).map oD)), y4, ?_⟩
  rw [e2] at h
  generalize D.lst ((dl o.toOk u).map oD) = Cs at *
  generalize D.lst (l.map pD) = F at *
  simp only [fbst] at h ⊢
  simp [bd_Ladder_found_best_2, hL, e, h]
theorem fb_end (I F : D) (y2 y3 y4 : Option D) (hl : l_Ladder_found_best_2 (fbst I (.lst []) none none none) = .nx (fbst I F y2 y3 y4)) : callD 1 5 g_Ladder_found_best [I] = .ok F := by
  rw [cd_Ladder_found_best]
  simp only [fbst] at hl
  simp [g_Ladder_found_best, hl]
theorem ev_found_best {n : Nat} {rs : List Rd} (o : Okm n rs) (hn : n ≤ 900) (hl : rs.length ≤ SZ) {ord : List Nat} (ho : Ordr n ord) (I : D) (hA : fldD fl_laid "laid" I = some (pA cD (acs rs ord))) (hL : fldD fl_land "land" I = some (landD n rs)) : callD 1 5 g_Ladder_found_best [I] = .ok (.lst ((keptL o ord).map pD)) := by
  have h2 : n * n ≤ 900 * 900 := Nat.mul_le_mul hn hn
  obtain ⟨ρ', e1, y2, y3, y4, e2⟩ := forD_all (h := tgName 2) (body := bd_Ladder_found_best_2) (rngD n) (fun i ρ => ∃ y2 y3 y4, ρ = fbst I (.lst ((((List.range n).take i).flatMap fun u => ((List.range n).filter (kpb o ord u)).map fun w => (u, w)).map pD)) y2 y3 y4) (fbst I (.lst []) none none none) ⟨none, none, none, rfl⟩ (by
    rintro i d ρ hd ⟨y2, y3, y4, rfl⟩
    obtain ⟨hi, rfl⟩ := rng_get hd
    have hi : i < n := by omega
    have hk : (((List.range n).take i).flatMap fun u => ((List.range n).filter (kpb o ord u)).map fun w => ((u, w) : Pr)).length ≤ n * n := by
      have : (((List.range n).take i).flatMap fun u => ((List.range n).filter (kpb o ord u)).map fun w => ((u, w) : Pr)).Sublist (keptL o ord) := by
        have e : List.range n = (List.range n).take i ++ (List.range n).drop i := (List.take_append_drop i _).symm
        have : keptL o ord = ((List.range n).take i).flatMap (fun u => ((List.range n).filter (kpb o ord u)).map fun w => ((u, w) : Pr)) ++ ((List.range n).drop i).flatMap (fun u => ((List.range n).filter (kpb o ord u)).map fun w => ((u, w) : Pr)) := by
          rw [← List.flatMap_append, ← e]
          rfl
        rw [this]
        exact List.sublist_append_left _ _
      exact Nat.le_trans this.length_le (keptL_len o ord)
    obtain ⟨z3, z4, e⟩ := fb_row (u := i) o hn ho I hA (.lst (rs.map rD)) hL (ev_costs_from o.toOk hl hn hi) (((List.range n).take i).flatMap fun u => ((List.range n).filter (kpb o ord u)).map fun w => (u, w)) (by rw [SZ_eq]; omega) y3 y4
    refine ⟨_, _, rfl, e, some (nD i), z3, z4, ?_⟩
    rw [List.take_add_one, List.getElem?_range hi, Option.toList_some, List.flatMap_append]
    simp)
  rw [rng_len, show ((n : Int)).toNat = n from rfl, List.take_of_length_le (by simp)] at e2
  refine fb_end I _ y2 y3 y4 ?_
  unfold l_Ladder_found_best_2
  have r : fRange (f2 ixD (f1 (fldD fl_land "land") (fVar 0)) (fC (.int 0))) (fbst I (.lst []) none none none) = .ok (rngD n) := by
    have hx : ixD (landD n rs) (.int 0) = some (.int n) := rfl
    generalize landD n rs = L at *
    exact e_fRange (by simp [fbst, hL, hx]) (by omega) (by omega)
  rw [sFor_ok r, e1, e2]
  rfl
theorem init_ev (L O A M B L0 O0 : D) (e0 : callD 1 1 g_checked [L0] = .ok L) (hn : isNon O0 = false) (e1 : callD 2 4 g_checked_order [L, O0] = .ok O) (e2 : callD 2 5 g_arc_costs [L, O] = .ok A) (e3 : callD 2 7 g_middles [L, O] = .ok M) (e4 : callD 1 5 g_Ladder_found_best [in_Ladder_4 L O A M] = .ok B) : callM 3 3 g_Ladder___init__ [.ins "Ladder" [] [], L0, O0] = .ok .non [some (in_Ladder L O A M B), some L0, some O0] := by
  rw [cd_Ladder___init__]
  simp [g_Ladder___init__, e0, hn, e1, e2, e3, e4]
theorem init_ev0 (L O A M B L0 : D) (e0 : callD 1 1 g_checked [L0] = .ok L) (e1 : callD 1 8 g_ranked [L] = .ok O) (e2 : callD 2 5 g_arc_costs [L, O] = .ok A) (e3 : callD 2 7 g_middles [L, O] = .ok M) (e4 : callD 1 5 g_Ladder_found_best [in_Ladder_4 L O A M] = .ok B) : callM 3 3 g_Ladder___init__ [.ins "Ladder" [] [], L0, .non] = .ok .non [some (in_Ladder L O A M B), some L0, some .non] := by
  rw [cd_Ladder___init__]
  simp [g_Ladder___init__, e0, e1, e2, e3, e4]
noncomputable def ladD {n : Nat} {rs : List Rd} (o : Okm n rs) (ord : List Nat) : D := in_Ladder (landD n rs) (.lst (ord.map nD)) (pA cD (acs rs ord)) (pA oN (mids rs ord)) (.lst ((keptL o ord).map pD))
theorem ev_Ladder {n : Nat} {rs : List Rd} (n1 : 1 ≤ n) (n2 : n ≤ 16) (o : Okm n rs) (hl : rs.length ≤ 60) {ord : List Nat} (ho : Ordr n ord) : callM 3 3 g_Ladder___init__ [.ins "Ladder" [] [], landD n rs, .lst (ord.map nD)] = .ok .non [some (ladD o ord), some (landD n rs), some (.lst (ord.map nD))] := by
  have h2 : n * n ≤ 16 * 16 := Nat.mul_le_mul n2 n2
  have hsz : n * n < SZ := by rw [SZ_eq]; omega
  exact init_ev _ _ _ _ _ _ _ (ev_checked n1 n2 o hl) rfl (ev_checked_order n (by omega) _ ord ho) (ev_arc_costs o hsz ho) (ev_middles o hsz ho) (ev_found_best o (by omega) (by rw [SZ_eq]; omega) ho _ (get_Ladder_4_2 _ _ _ _) (get_Ladder_4_0 _ _ _ _))
theorem ev_Ladder0 {n : Nat} {rs : List Rd} (n1 : 1 ≤ n) (n2 : n ≤ 16) (o : Okm n rs) (hl : rs.length ≤ 60) : ∃ ord, Ordr n ord ∧ callD 1 8 g_ranked [landD n rs] = .ok (.lst (ord.map nD)) ∧ callM 3 3 g_Ladder___init__ [.ins "Ladder" [] [], landD n rs, .non] = .ok .non [some (ladD o ord), some (landD n rs), some .non] := by
  have h2 : n * n ≤ 16 * 16 := Nat.mul_le_mul n2 n2
  have hsz : n * n < SZ := by rw [SZ_eq]; omega
  obtain ⟨ord, hr, er⟩ := ev_ranked n rs n2 (by omega)
  have ho := Rk.ordr' hr
  exact ⟨ord, ho, er, init_ev0 _ _ _ _ _ _ (ev_checked n1 n2 o hl) er (ev_arc_costs o hsz ho) (ev_middles o hsz ho) (ev_found_best o (by omega) (by rw [SZ_eq]; omega) ho _ (get_Ladder_4_2 _ _ _ _) (get_Ladder_4_0 _ _ _ _))⟩
end Nl
set_option Elab.async false
set_option linter.all false
set_option maxRecDepth 100000
set_option maxHeartbeats 1000000
namespace Nl
open PySem L2 Pd
/-! ### what a ladder tells: the map, the order -/
theorem tm_ev (L O A M B N : D) (rl : List D) (h0 : ixD L (.int 0) = some N) (h1 : ixD L (.int 1) = some (.lst rl)) (c0 : chk N = some N) (hi : immAll rl = true) : callD 1 1 g_Ladder_told_map [in_Ladder L O A M B] = .ok (.tup [N, .lst rl]) := by
  rw [cd_Ladder_told_map]
  simp [g_Ladder_told_map, h0, h1, c0, hi]
theorem me_told_map {n : Nat} {rs : List Rd} (o : Okm n rs) (ord : List Nat) : mTb "told_map" tb_Ladder_told_map [] (ladD o ord) (.ok []) = .ok (landD n rs) := by
  unfold ladD
  rw [tb_Ladder_told_map_Ladder_5]
  exact tm_ev _ _ _ _ _ (.int n) (rs.map rD) rfl rfl rfl (immAll_map (fun _ => e_imm_r) rs)
theorem or_ev (L A M B : D) (ol : List D) (hi : immAll ol = true) : callD 1 1 g_Ladder_order [in_Ladder L (.lst ol) A M B] = .ok (.lst ol) := by
  rw [cd_Ladder_order]
  simp [g_Ladder_order, hi]
theorem me_order {n : Nat} {rs : List Rd} (o : Okm n rs) (ord : List Nat) : mTb "order" tb_Ladder_order [] (ladD o ord) (.ok []) = .ok (.lst (ord.map nD)) := by
  unfold ladD
  rw [tb_Ladder_order_Ladder_5]
  exact or_ev _ _ _ _ _ (immAll_map (fun _ => e_imm_n) ord)
end Nl
set_option Elab.async false
set_option linter.all false
set_option maxRecDepth 100000
set_option maxHeartbeats 1000000
namespace Nl
open PySem L2 Pd
/-! ### what a ladder tells: its arcs -/
theorem ar_ev (L O A M B R : D) (h : sortS [A] = some R) : callD 1 1 g_Ladder_arcs [in_Ladder L O A M B] = .ok R := by
  rw [cd_Ladder_arcs]
  simp [g_Ladder_arcs, h]
theorem me_arcs {n : Nat} {rs : List Rd} (o : Okm n rs) (ord : List Nat) : mTb "arcs" tb_Ladder_arcs [] (ladD o ord) (.ok []) = .ok (.lst ((srtP (alK (acs rs ord))).map pD)) := by
  unfold ladD
  rw [tb_Ladder_arcs_Ladder_5]
  exact ar_ev _ _ _ _ _ _ (srt_pA _ _)
end Nl
set_option Elab.async false
set_option linter.all false
set_option maxRecDepth 100000
set_option maxHeartbeats 1000000
namespace Nl
open PySem L2 Pd
/-! ### what a ladder tells: an arc, its cost -/
theorem arc_ev (L O A M B u w : D) (e1 : callD 2 2 g_is_place [L, u] = .ok (.bl true)) (e2 : callD 2 2 g_is_place [L, w] = .ok (.bl true)) (h : notinD (.tup [u, w]) A = some false) (c1 : chk u = some u) (c2 : chk w = some w) : callD 3 3 g_Ladder_arc [in_Ladder L O A M B, u, w] = .ok (.tup [u, w]) := by
  rw [cd_Ladder_arc]
  simp [g_Ladder_arc, e1, e2, h, c1, c2]
theorem ev_arc {n : Nat} {rs : List Rd} (o : Okm n rs) {ord : List Nat} (ho : Ordr n ord) {u w : Nat} {c : C} (hc : alG (acs rs ord) (u, w) = some c) : callD 3 3 g_Ladder_arc [ladD o ord, nD u, nD w] = .ok (pD (u, w)) := by
  obtain ⟨r1, r2, _⟩ := (acs_aok o ho).get hc
  have h1 := ev_is_place n (.lst (rs.map rD)) (nD u) (tyN_nD u)
  have h2 := ev_is_place n (.lst (rs.map rD)) (nD w) (tyN_nD w)
  rw [pl_nat n u r1] at h1
  rw [pl_nat n w r2] at h2
  have h3 := nin_pA (em := cD) (acs rs ord) (u, w)
  rw [hc] at h3
  unfold ladD
  exact arc_ev _ _ _ _ _ _ _ h1 h2 h3 rfl rfl
theorem co_ev (L O A M B u w P c : D) (e : callD 3 3 g_Ladder_arc [in_Ladder L O A M B, u, w] = .ok P) (i : ixD A P = some c) (cc : chk c = some c) : callD 3 3 g_Ladder_cost [in_Ladder L O A M B, u, w] = .ok c := by
  rw [cd_Ladder_cost]
  simp [g_Ladder_cost, e, i, cc]
theorem me_cost {n : Nat} {rs : List Rd} (o : Okm n rs) {ord : List Nat} (ho : Ordr n ord) {u w : Nat} {c : C} (hc : alG (acs rs ord) (u, w) = some c) : mTb "cost" tb_Ladder_cost [] (ladD o ord) (.ok [nD u, nD w]) = .ok (cD c) := by
  have e := ev_arc o ho hc
  unfold ladD at e ⊢
  rw [tb_Ladder_cost_Ladder_5]
  have i := ix_pA (em := cD) (acs rs ord) (u, w)
  rw [hc] at i
  exact co_ev _ _ _ _ _ _ _ _ _ e i rfl
end Nl
set_option Elab.async false
set_option linter.all false
set_option maxRecDepth 100000
set_option maxHeartbeats 1000000
namespace Nl
open PySem L2 Pd
/-! ### what a ladder tells: middles -/
theorem mi_ev (L O A M B u w P c : D) (e : callD 3 3 g_Ladder_arc [in_Ladder L O A M B, u, w] = .ok P) (i : ixD M P = some c) (cc : chk c = some c) : callD 3 3 g_Ladder_middle [in_Ladder L O A M B, u, w] = .ok c := by
  rw [cd_Ladder_middle]
  simp [g_Ladder_middle, e, i, cc]
theorem me_middle {n : Nat} {rs : List Rd} (o : Okm n rs) {ord : List Nat} (ho : Ordr n ord) {u w : Nat} {c : C} (hc : alG (acs rs ord) (u, w) = some c) : mTb "middle" tb_Ladder_middle [] (ladD o ord) (.ok [nD u, nD w]) = .ok (oN (mdl ord (alG (acs rs ord)) (alG (rcs rs)) (u, w))) := by
  have e := ev_arc o ho hc
  unfold ladD at e ⊢
  rw [tb_Ladder_middle_Ladder_5]
  have i := ix_pA (em := oN) (mids rs ord) (u, w)
  unfold mids at i
  rw [ovr_get, hc] at i
  exact mi_ev _ _ _ _ _ _ _ _ _ e i e_chk_on
end Nl
set_option Elab.async false
set_option linter.all false
set_option maxRecDepth 100000
set_option maxHeartbeats 1000000
namespace Nl
open PySem L2 Pd
abbrev tst (I L O E A M F : D) (x7 x8 x9 : Option D) : Pd.Env := [some I, some L, some O, some E, some A, some M, some F, x7, x8, x9]
theorem lt_one (I L O E A M F u w c m : D) (x9 : Option D) (h1 : mTb "cost" tb_Ladder_cost [] I (.ok [u, w]) = .ok c) (i1 : ixD A (.tup [u, w]) = some c) (q1 : neD c c = some false) (h2 : mTb "middle" tb_Ladder_middle [] I (.ok [u, w]) = .ok m) (i2 : ixD M (.tup [u, w]) = some m) (q2 : neD m m = some false) : bd__law_told_1 (tst I L O E A M F (some u) (some w) x9) = .nx (tst I L O E A M F (some u) (some w) x9) := by
  simp [bd__law_told_1, tst, h1, i1, q1, h2, i2, q2]
theorem shal_on (a : Option Nat) (k : Nat) : shal (oN a) k = true := by cases a <;> simp [oN, shal]
theorem lt_all {n : Nat} {rs : List Pd.Rd} (o : Okm n rs) (hn : n ≤ 900) {ord : List Nat} (ho : Ordr n ord) (L O E : D) (x9 : Option D) : ∃ y7 y8, l__law_told_1 (tst (ladD o ord) L O E (pA cD (acs rs ord)) (pA oN (mids rs ord)) (.lst ((srtP (alK (acs rs ord))).map pD)) none none x9) = .nx (tst (ladD o ord) L O E (pA cD (acs rs ord)) (pA oN (mids rs ord)) (.lst ((srtP (alK (acs rs ord))).map pD)) y7 y8 x9) := by
  have a1 := acs_aok o ho
  have keep : ∀ p ∈ srtP (alK (acs rs ord)), ∃ c, alG (acs rs ord) p = some c := fun p hp => Option.isSome_iff_exists.mp ((alG_isSome _ _).mpr ((srtP_mem _ _).mp hp))
  generalize hX : srtP (alK (acs rs ord)) = X at *
  obtain ⟨ρ', e1, y7, y8, e2⟩ := forD_all (h := tgTup 2 (tgCons (tgName 7) (tgCons (tgName 8) tgNil))) (body := keepL 6 (X.map pD) bd__law_told_1) (X.map pD) (fun i ρ => ∃ y7 y8, ρ = tst (ladD o ord) L O E (pA cD (acs rs ord)) (pA oN (mids rs ord)) (.lst (X.map pD)) y7 y8 x9) (tst (ladD o ord) L O E (pA cD (acs rs ord)) (pA oN (mids rs ord)) (.lst (X.map pD)) none none x9) ⟨none, none, rfl⟩ (by
    rintro i d ρ hd ⟨y7, y8, rfl⟩
    obtain ⟨p, hp, rfl⟩ := map_get hd
    obtain ⟨u, w⟩ := p
    obtain ⟨c, hc⟩ := keep (u, w) (List.mem_of_getElem? hp)
    have i1 := ix_pA (em := cD) (acs rs ord) (u, w)
    rw [hc] at i1
    have i2 := ix_pA (em := oN) (mids rs ord) (u, w)
    unfold mids at i2
    rw [ovr_get, hc] at i2
    exact ⟨_, _, rfl, keepL_nx (lt_one _ _ _ _ _ _ _ (nD u) (nD w) _ _ x9 (me_cost o ho hc) i1 (ne_refl (shal_cost c 11)) (me_middle o ho hc) i2 (ne_refl (shal_on _ 12))) rfl, _, _, rfl⟩)
  refine ⟨y7, y8, ?_⟩
  unfold l__law_told_1
  rw [sForM_ok (xs := X.map pD) rfl (immAll_map (fun _ => e_imm_p) X), e1, e2]
theorem told_ev (I N A M Kk : D) (rl ol fl : List D) (eb : Bool) (y7 y8 : Option D) (cN : chk N = some N) (hr : rl.length < SZ) (ho : ol.length ≤ 1000) (im1 : immAll rl = true) (h1 : mTb "order" tb_Ladder_order [] I (.ok []) = .ok (.lst ol)) (q1 : neD (.lst ol) (.lst ol) = some false) (ea : callD 2 5 g_arc_costs [.tup [N, .lst rl], .lst ol] = .ok A) (em : callD 2 7 g_middles [.tup [N, .lst rl], .lst ol] = .ok M) (hf : mTb "arcs" tb_Ladder_arcs [] I (.ok []) = .ok (.lst fl)) (hd : listdS [A] = some Kk) (hs : sortS [Kk] = some (.lst fl)) (q2 : neD (.lst fl) (.lst fl) = some false)
    (hl : l__law_told_1 (tst I (.tup [N, .lst rl]) (.lst ol) (.bl eb) A M (.lst fl) none none none) = .nx (tst I (.tup [N, .lst rl]) (.lst ol) (.bl eb) A M (.lst fl) y7 y8 none)) (mt : mTb "told_map" tb_Ladder_told_map [] I (.ok []) = .ok (.tup [N, .lst rl])) (q3 : neD (.tup [N, .lst rl]) (.tup [N, .lst rl]) = some false) : callD 4 10 g__law_told [I, .tup [N, .lst rl], .lst ol, .bl eb] = .ok (.bl true) := by
  simp only [tst] at hl
  have p1 : stepP (.tup [N, D.lst rl]) [] (.int 1) = some [1] := rfl
  have p2 : subP (.tup [N, D.lst rl]) [1] = some (.lst rl) := rfl
  have p3 : ∀ e, putP (.tup [N, D.lst rl]) [1] e = .tup [N, e] := fun e => rfl
  rw [cd__law_told]
  cases eb <;> simp [g__law_told, h1, q1, ea, em, hf, hd, hs, q2, hl, mt, q3, p1, p2, p3, hr]
theorem ev__law_told {n : Nat} {rs : List Pd.Rd} (o : Okm n rs) (n2 : n ≤ 16) (hr : rs.length ≤ 60) {ord : List Nat} (ho : Ordr n ord) (eb : Bool) : callD 4 10 g__law_told [ladD o ord, landD n rs, .lst (ord.map nD), .bl eb] = .ok (.bl true) := by
  have h2 : n * n ≤ 16 * 16 := Nat.mul_le_mul n2 n2
  have hsz : n * n < SZ := by rw [SZ_eq]; omega
  obtain ⟨y7, y8, hl⟩ := lt_all o (by omega) ho (landD n rs) (.lst (ord.map nD)) (.bl eb) none
  have s1 : shal (landD n rs) 12 = true := eqs_land.sh (n, rs) 12 (by decide)
  have s2 : shal (.lst (ord.map nD)) 12 = true := (eqs_lst eqs_n).sh ord 12 (by decide)
  have s3 : shal (.lst ((srtP (alK (acs rs ord))).map pD)) 12 = true := (eqs_lst eqs_p).sh _ 12 (by decide)
  exact told_ev _ (.int n) _ _ _ (rs.map rD) _ _ eb y7 y8 rfl (by rw [List.length_map, SZ_eq]; omega) (by rw [List.length_map, ho.len]; omega) (immAll_map (fun _ => e_imm_r) rs) (me_order o ord) (ne_refl s2) (ev_arc_costs o hsz ho) (ev_middles o hsz ho) (me_arcs o ord) (lst_pA _ _) (srt_lst _) (ne_refl s3) hl (me_told_map o ord) (ne_refl s1)
abbrev lwst (S C L O Bt L2 O2 Ls : D) (x2 x9 : Option D) : Pd.Env := [some S, some C, x2, some L, some O, some Bt, some L2, some O2, some Ls, x9]
theorem lw_turn (S C L O Bt L2 O2 Ls I O' : D) (x2 : Option D) (i s : Int) (hI : ixD Ls (.int (i % 3)) = some I) (hO : atI [O, Bt, O] (i % 3) = some O') (hs : sumS [C] = some (.int s)) (e : ∀ b, callD 4 10 g__law_told [I, L, O', .bl b] = .ok (.bl true)) : bd_law_1 (lwst S C L O Bt L2 O2 Ls x2 (some (.int i))) = .nx (lwst S C L O Bt L2 O2 Ls x2 (some (.int i))) := by
  have hB : (3 : Int) < BIGD := by unfold BIGD; decide
  simp [bd_law_1, lwst, hI, hO, hs, e, hB]
theorem lw_turns (S C L O Bt L2 O2 I1 I2 : D) (x2 : Option D) (s : Int) (hs : sumS [C] = some (.int s)) (e1 : ∀ b, callD 4 10 g__law_told [I1, L, O, .bl b] = .ok (.bl true)) (e2 : ∀ b, callD 4 10 g__law_told [I2, L, Bt, .bl b] = .ok (.bl true)) : ∃ y, l_law_1 (lwst S C L O Bt L2 O2 (.lst [I1, I2, I1]) x2 none) = .nx (lwst S C L O Bt L2 O2 (.lst [I1, I2, I1]) x2 y) := by
  obtain ⟨ρ', f1, y, f2⟩ := forD_all (h := tgName 9) (body := bd_law_1) (rngD 6) (fun i ρ => ∃ y, ρ = lwst S C L O Bt L2 O2 (.lst [I1, I2, I1]) x2 y) (lwst S C L O Bt L2 O2 (.lst [I1, I2, I1]) x2 none) ⟨none, rfl⟩ (by
    rintro i d ρ hd ⟨y, rfl⟩
    obtain ⟨hi, rfl⟩ := rng_get hd
    have hi : i < 6 := by omega
    refine ⟨_, _, rfl, ?_, some (.int i), rfl⟩
    rcases (show i = 0 ∨ i = 1 ∨ i = 2 ∨ i = 3 ∨ i = 4 ∨ i = 5 by omega) with rfl | rfl | rfl | rfl | rfl | rfl
    · exact lw_turn _ _ _ _ _ _ _ _ I1 O _ _ s rfl rfl hs e1
    · exact lw_turn _ _ _ _ _ _ _ _ I2 Bt _ _ s rfl rfl hs e2
    · exact lw_turn _ _ _ _ _ _ _ _ I1 O _ _ s rfl rfl hs e1
    · exact lw_turn _ _ _ _ _ _ _ _ I1 O _ _ s rfl rfl hs e1
    · exact lw_turn _ _ _ _ _ _ _ _ I2 Bt _ _ s rfl rfl hs e2
    · exact lw_turn _ _ _ _ _ _ _ _ I1 O _ _ s rfl rfl hs e1)
  refine ⟨y, ?_⟩
  unfold l_law_1
  rw [sFor_ok (e_fRange (n := 6) (by simp) (by omega) (by omega)), f1, f2]
theorem law_ev (S C N I1 I2 Bt : D) (s : Int) (rl ol : List D) (y : Option D) (e1 : c_law_1 [some S, none, none, none, none, none, none, none, none, none] = .ok C) (cN : chk N = some N) (im1 : immAll rl = true) (im2 : immAll ol = true) (e2 : callD 2 6 g__law_map [C, .int 7] = .ok (.tup [N, .lst rl])) (hs : sumS [C] = some (.int s)) (e3 : callD 2 4 g__law_order [N, .int s] = .ok (.lst ol)) (er : callD 1 8 g_ranked [.tup [N, .lst rl]] = .ok Bt)
    (m1 : callM 3 3 g_Ladder___init__ [.ins "Ladder" [] [], .tup [N, .lst rl], .lst ol] = .ok .non [some I1, some (.tup [N, .lst rl]), some (.lst ol)]) (m2 : callM 3 3 g_Ladder___init__ [.ins "Ladder" [] [], .tup [N, .lst rl], .non] = .ok .non [some I2, some (.tup [N, .lst rl]), some .non]) (q1 : neD (.tup [N, .lst rl]) (.tup [N, .lst rl]) = some false) (q2 : neD (.lst ol) (.lst ol) = some false)
    (hl : l_law_1 (lwst S C (.tup [N, .lst rl]) (.lst ol) Bt (.tup [N, .lst []]) (.lst ol.reverse) (.lst [I1, I2, I1]) none none) = .nx (lwst S C (.tup [N, .lst rl]) (.lst ol) Bt (.tup [N, .lst []]) (.lst ol.reverse) (.lst [I1, I2, I1]) none y)) : callD 1 10 g_law [S] = .ok (.bl true) := by
  simp only [lwst] at hl
  have p1 : stepP (.tup [N, D.lst rl]) [] (.int 1) = some [1] := rfl
  have p2 : subP (.tup [N, D.lst rl]) [1] = some (.lst rl) := rfl
  have p3 : ∀ e, putP (.tup [N, D.lst rl]) [1] e = .tup [N, e] := fun e => rfl
  rw [cd_law]
  simp [g_law, e1, e2, hs, e3, er, cN, im1, im2, m1, m2, q1, q2, p1, p2, p3, hl]
theorem cells_ev (ns : List Int) (x1 x2 x3 x4 x5 x6 x7 x8 x9 : Option D) : c_law_1 [some (.fz (ns.map D.int)), x1, x2, x3, x4, x5, x6, x7, x8, x9] = .ok (.lst ((((ns.take 25).map fun c => c % 10 ^ 60)).map D.int)) := by
  rw [List.map_map]
  refine fLc_all D.int (ns.take 25) (D.int ∘ fun c => c % 10 ^ 60) ?_ (by rw [List.length_take, SZ_eq]; omega) fun c hc => ⟨_, rfl, by simp⟩
  have := slz_to ns 25
  have this : slD (.fz (ns.map D.int)) none (some 25) = some (.lst ((ns.take 25).map D.int)) := this
  generalize D.fz (ns.map D.int) = S at *
  generalize (ns.take 25).map D.int = L at *
  simp [this]
theorem law_true (ns : List Int) (hl : ns.length ≤ 63) (hb : Bits ns) : callD 1 10 g_law [.fz (ns.map D.int)] = .ok (.bl true) := by
  have e1 := cells_ev ns none none none none none none none none none
  obtain ⟨n, rs, n1, n2, hr, o, e2⟩ := ev__law_map ((ns.take 25).map fun c => c % 10 ^ 60) (fun c hc => by
    obtain ⟨z, _, rfl⟩ := List.mem_map.mp hc
    exact ⟨Int.emod_nonneg _ (by decide), Int.emod_lt_of_pos _ (by decide)⟩) 7 (by decide) (by decide)
  have hs : sumS [.lst (((ns.take 25).map fun c => c % 10 ^ 60).map D.int)] = some (.int ((ns.take 25).map fun c => c % 10 ^ 60).sum) := by
    show ((some (((ns.take 25).map fun c => c % 10 ^ 60).map D.int)).bind intsOf).map _ = _
    rw [Option.bind_some, ints_ints]
    rfl
  obtain ⟨ord, ho, e3⟩ := ev__law_order n (by omega) ((ns.take 25).map fun c => c % 10 ^ 60).sum
  obtain ⟨ord2, ho2, er, m2⟩ := ev_Ladder0 n1 (by omega) o (by omega)
  have m1 := ev_Ladder n1 (by omega) o (by omega) ho
  have t1 := ev__law_told o (by omega) (by omega) ho
  have t2 := ev__law_told o (by omega) (by omega) ho2
  have s1 : shal (landD n rs) 12 = true := eqs_land.sh (n, rs) 12 (by decide)
  have s2 : shal (.lst (ord.map nD)) 12 = true := (eqs_lst eqs_n).sh ord 12 (by decide)
  obtain ⟨y, hy⟩ := lw_turns (.fz (ns.map D.int)) (.lst (((ns.take 25).map fun c => c % 10 ^ 60).map D.int)) (landD n rs) (.lst (ord.map nD)) (.lst (ord2.map nD)) (.tup [.int n, .lst []]) (.lst (ord.map nD).reverse) (ladD o ord) (ladD o ord2) none _ hs t1 t2
  exact law_ev _ _ (.int n) (ladD o ord) (ladD o ord2) (.lst (ord2.map nD)) _ (rs.map rD) (ord.map nD) y e1 rfl (immAll_map (fun _ => e_imm_r) rs) (immAll_map (fun _ => e_imm_n) ord) e2 hs e3 er m1 m2 (ne_refl s1) (ne_refl s2) hy
end Nl
set_option Elab.async false
set_option linter.all false
set_option maxRecDepth 100000
set_option maxHeartbeats 4000000
namespace Nl
open PySem PySem.Spec PyProof.Rows L2 Pd
def topS (i : Nat) : Stmt := PySem.Challenge.pw_nodeladder_k31_ladder_told.main.body.getD i (.Pass ⟨0, 0, 0, 0⟩)
/-- what the top has written -/
structure Tab (K : PySem.W.Frag) (mg : Str → Option Value) : Prop where
  bi : Bi mg
  k_MOST_PLACES : ∃ t, mg "MOST_PLACES" = some (.int 16 t)
  k_MOST_ROADS : ∃ t, mg "MOST_ROADS" = some (.int 60 t)
  x_NoArc : ExCls K mg "NoArc"
  x_NoMap : ExCls K mg "NoMap"
  x_NoOrder : ExCls K mg "NoOrder"
  f_best : FldTb K mg "best" fl_best
  f_inner : FldTb K mg "inner" fl_inner
  f_laid : FldTb K mg "laid" fl_laid
  f_land : FldTb K mg "land" fl_land
  f_line : FldTb K mg "line" fl_line
  is_number : ∃ (f : Addr) (fd : FuncData), FunD K "is_number" "is_number" (defArgs (topS 9)) (defBody (topS 9)) (defScope (topS 9)) [] [] f fd ∧ mg "is_number" = some (.ref f)
  is_length : ∃ (f : Addr) (fd : FuncData), FunD K "is_length" "is_length" (defArgs (topS 10)) (defBody (topS 10)) (defScope (topS 10)) [] [] f fd ∧ mg "is_length" = some (.ref f)
  is_road : ∃ (f : Addr) (fd : FuncData), FunD K "is_road" "is_road" (defArgs (topS 11)) (defBody (topS 11)) (defScope (topS 11)) [] [] f fd ∧ mg "is_road" = some (.ref f)
  is_map : ∃ (f : Addr) (fd : FuncData), FunD K "is_map" "is_map" (defArgs (topS 12)) (defBody (topS 12)) (defScope (topS 12)) [] [] f fd ∧ mg "is_map" = some (.ref f)
  checked : ∃ (f : Addr) (fd : FuncData), FunD K "checked" "checked" (defArgs (topS 13)) (defBody (topS 13)) (defScope (topS 13)) [] [] f fd ∧ mg "checked" = some (.ref f)
  added : ∃ (f : Addr) (fd : FuncData), FunD K "added" "added" (defArgs (topS 14)) (defBody (topS 14)) (defScope (topS 14)) [] [] f fd ∧ mg "added" = some (.ref f)
  least : ∃ (f : Addr) (fd : FuncData), FunD K "least" "least" (defArgs (topS 15)) (defBody (topS 15)) (defScope (topS 15)) [] [] f fd ∧ mg "least" = some (.ref f)
  road_cost : ∃ (f : Addr) (fd : FuncData), FunD K "road_cost" "road_cost" (defArgs (topS 16)) (defBody (topS 16)) (defScope (topS 16)) [] [] f fd ∧ mg "road_cost" = some (.ref f)
  road_costs : ∃ (f : Addr) (fd : FuncData), FunD K "road_costs" "road_costs" (defArgs (topS 18)) (defBody (topS 18)) (defScope (topS 18)) [] [] f fd ∧ mg "road_costs" = some (.ref f)
  over : ∃ (f : Addr) (fd : FuncData), FunD K "over" "over" (defArgs (topS 19)) (defBody (topS 19)) (defScope (topS 19)) [] [] f fd ∧ mg "over" = some (.ref f)
  arc_costs : ∃ (f : Addr) (fd : FuncData), FunD K "arc_costs" "arc_costs" (defArgs (topS 20)) (defBody (topS 20)) (defScope (topS 20)) [] [] f fd ∧ mg "arc_costs" = some (.ref f)
  middle_of : ∃ (f : Addr) (fd : FuncData), FunD K "middle_of" "middle_of" (defArgs (topS 21)) (defBody (topS 21)) (defScope (topS 21)) [] [] f fd ∧ mg "middle_of" = some (.ref f)
  middles : ∃ (f : Addr) (fd : FuncData), FunD K "middles" "middles" (defArgs (topS 22)) (defBody (topS 22)) (defScope (topS 22)) [] [] f fd ∧ mg "middles" = some (.ref f)
  is_place : ∃ (f : Addr) (fd : FuncData), FunD K "is_place" "is_place" (defArgs (topS 24)) (defBody (topS 24)) (defScope (topS 24)) [] [] f fd ∧ mg "is_place" = some (.ref f)
  checked_order : ∃ (f : Addr) (fd : FuncData), FunD K "checked_order" "checked_order" (defArgs (topS 25)) (defBody (topS 25)) (defScope (topS 25)) [] [] f fd ∧ mg "checked_order" = some (.ref f)
  bows_of : ∃ (f : Addr) (fd : FuncData), FunD K "bows_of" "bows_of" (defArgs (topS 26)) (defBody (topS 26)) (defScope (topS 26)) [] [] f fd ∧ mg "bows_of" = some (.ref f)
  lacking : ∃ (f : Addr) (fd : FuncData), FunD K "lacking" "lacking" (defArgs (topS 27)) (defBody (topS 27)) (defScope (topS 27)) [] [] f fd ∧ mg "lacking" = some (.ref f)
  ranked : ∃ (f : Addr) (fd : FuncData), FunD K "ranked" "ranked" (defArgs (topS 28)) (defBody (topS 28)) (defScope (topS 28)) [] [] f fd ∧ mg "ranked" = some (.ref f)
  costs_from : ∃ (f : Addr) (fd : FuncData), FunD K "costs_from" "costs_from" (defArgs (topS 30)) (defBody (topS 30)) (defScope (topS 30)) [] [] f fd ∧ mg "costs_from" = some (.ref f)
  _law_mixed : ∃ (f : Addr) (fd : FuncData), FunD K "_law_mixed" "_law_mixed" (defArgs (topS 34)) (defBody (topS 34)) (defScope (topS 34)) [] [] f fd ∧ mg "_law_mixed" = some (.ref f)
  _law_road : ∃ (f : Addr) (fd : FuncData), FunD K "_law_road" "_law_road" (defArgs (topS 35)) (defBody (topS 35)) (defScope (topS 35)) [] [] f fd ∧ mg "_law_road" = some (.ref f)
  _law_map : ∃ (f : Addr) (fd : FuncData), FunD K "_law_map" "_law_map" (defArgs (topS 36)) (defBody (topS 36)) (defScope (topS 36)) [] [] f fd ∧ mg "_law_map" = some (.ref f)
  _law_order : ∃ (f : Addr) (fd : FuncData), FunD K "_law_order" "_law_order" (defArgs (topS 37)) (defBody (topS 37)) (defScope (topS 37)) [] [] f fd ∧ mg "_law_order" = some (.ref f)
  _law_told : ∃ (f : Addr) (fd : FuncData), FunD K "_law_told" "_law_told" (defArgs (topS 38)) (defBody (topS 38)) (defScope (topS 38)) [] [] f fd ∧ mg "_law_told" = some (.ref f)
  law : ∃ (f : Addr) (fd : FuncData), FunD K "law" "law" (defArgs (topS 39)) (defBody (topS 39)) (defScope (topS 39)) [] [] f fd ∧ mg "law" = some (.ref f)
  i_Ladder : ∃ (C f : Addr) (fd : FuncData), mg "Ladder" = some (.ref C) ∧ Mk K C f ∧ FunD K "__init__" "Ladder.__init__" (defArgs (inClass (topS 32) 0)) (defBody (inClass (topS 32) 0)) (defScope (inClass (topS 32) 0)) [.non] [] f fd
  m_Ladder_arc : ∃ (C f : Addr) (fd : FuncData), mg "Ladder" = some (.ref C) ∧ Cls K C ∧ Meth K C "arc" f ∧ FunD K "arc" "Ladder.arc" (defArgs (inClass (topS 32) 4)) (defBody (inClass (topS 32) 4)) (defScope (inClass (topS 32) 4)) [] [] f fd
  m_Ladder_arcs : ∃ (C f : Addr) (fd : FuncData), mg "Ladder" = some (.ref C) ∧ Cls K C ∧ Meth K C "arcs" f ∧ FunD K "arcs" "Ladder.arcs" (defArgs (inClass (topS 32) 3)) (defBody (inClass (topS 32) 3)) (defScope (inClass (topS 32) 3)) [] [] f fd
  m_Ladder_cost : ∃ (C f : Addr) (fd : FuncData), mg "Ladder" = some (.ref C) ∧ Cls K C ∧ Meth K C "cost" f ∧ FunD K "cost" "Ladder.cost" (defArgs (inClass (topS 32) 5)) (defBody (inClass (topS 32) 5)) (defScope (inClass (topS 32) 5)) [] [] f fd
  m_Ladder_found_best : ∃ (C f : Addr) (fd : FuncData), mg "Ladder" = some (.ref C) ∧ Cls K C ∧ Meth K C "found_best" f ∧ FunD K "found_best" "Ladder.found_best" (defArgs (inClass (topS 32) 9)) (defBody (inClass (topS 32) 9)) (defScope (inClass (topS 32) 9)) [] [] f fd
  m_Ladder_middle : ∃ (C f : Addr) (fd : FuncData), mg "Ladder" = some (.ref C) ∧ Cls K C ∧ Meth K C "middle" f ∧ FunD K "middle" "Ladder.middle" (defArgs (inClass (topS 32) 6)) (defBody (inClass (topS 32) 6)) (defScope (inClass (topS 32) 6)) [] [] f fd
  m_Ladder_order : ∃ (C f : Addr) (fd : FuncData), mg "Ladder" = some (.ref C) ∧ Cls K C ∧ Meth K C "order" f ∧ FunD K "order" "Ladder.order" (defArgs (inClass (topS 32) 2)) (defBody (inClass (topS 32) 2)) (defScope (inClass (topS 32) 2)) [] [] f fd
  m_Ladder_told_map : ∃ (C f : Addr) (fd : FuncData), mg "Ladder" = some (.ref C) ∧ Cls K C ∧ Meth K C "told_map" f ∧ FunD K "told_map" "Ladder.told_map" (defArgs (inClass (topS 32) 1)) (defBody (inClass (topS 32) 1)) (defScope (inClass (topS 32) 1)) [] [] f fd
section
variable {P : Program} {w : World} {K : PySem.W.Frag} {mg : Str → Option Value} {base : Heap}
abbrev s_is_number : Stmt := topS 9
abbrev n_is_number : List Str := ["thing"]
theorem sc_is_number : FnScope n_is_number (["thing"] : List Str) (defScope s_is_number) := ⟨rfl, rfl, rfl, by decide +kernel, rfl, by decide +kernel, by decide +kernel⟩
theorem b_is_number (T : Tab K mg) {lk : Addr → Prop} {cdv : Value} {A : Around} {outer : List PySem.Env} {s : Shared} {H : Hp} {E : XK} {Ad : Addr → Prop} {H0 : Hp} {io : Addr → Prop} {f : Addr} (hio : ∀ a, ¬ io a) (hr : Room 0 (A.deeper (envOfC "is_number" (defScope s_is_number) s.heap.objs.size f cdv))) :
    DSs (cxOf (L2.CX P w) P w K mg base n_is_number "is_number" (defScope s_is_number) f cdv A outer s H E) (mkC (cmOf K mg lk) (kdOf [.z]) Ad H0 io E true) (defBody s_is_number) g_is_number :=
  have nd := (sc_is_number).nd
  (dss_one (rets (de_and (isi (q := .b) ty_int rfl T.bi.isinstance rfl T.bi.int bb_int (vz 0)) (de_and (de_not (q := .b) (isi (q := .b) ty_bol rfl T.bi.isinstance rfl T.bi.bool bb_bool (vz 0))) (de_one (echain (q := (.n [])) (cmd_le hr.units) (cmd_lt hr.units) (de_int (q := .b)) (vz 0) (de_op2 (q := .b) opd_pow .b (de_int (q := .b)) (de_int (q := .b))))))) (rtn hio)))
theorem fk_is_number (T : Tab K mg) {lk : Addr → Prop} {f : Addr} {fd : FuncData} {dvs : List V} {kws : List (Str × V)} (F : FunD K "is_number" "is_number" (defArgs s_is_number) (defBody s_is_number) (defScope s_is_number) dvs kws f fd) : FnOk P w K mg base (L2.CX P w) 1 f fd (["thing"] : List Str) (spD (cmOf K mg lk) 1 true (callD 1 1 g_is_number)) :=
  fn_ok (kd := (kdOf [.z])) F sc_is_number (by decide) (by decide) fun cdv A outer s H E Ad H0 io hio hr => b_is_number T hio hr
theorem fd_is_number (T : Tab K mg) {lk : Addr → Prop} : FD P w K mg base (cmOf K mg lk) "is_number" 1 (["thing"] : List Str) true 1 1 g_is_number := by
  obtain ⟨f, fd, F, hm⟩ := T.is_number
  exact ⟨f, fd, hm, F.kp, (F.bindsN fun _ _ _ _ _ _ us hl => match us, hl with | [_], _ => rfl), rfl, fk_is_number T F⟩
abbrev s_is_length : Stmt := topS 10
abbrev n_is_length : List Str := ["thing"]
theorem sc_is_length : FnScope n_is_length (["thing"] : List Str) (defScope s_is_length) := ⟨rfl, rfl, rfl, by decide +kernel, rfl, by decide +kernel, by decide +kernel⟩
theorem b_is_length (T : Tab K mg) {lk : Addr → Prop} {cdv : Value} {A : Around} {outer : List PySem.Env} {s : Shared} {H : Hp} {E : XK} {Ad : Addr → Prop} {H0 : Hp} {io : Addr → Prop} {f : Addr} (hio : ∀ a, ¬ io a) (hr : Room 1 (A.deeper (envOfC "is_length" (defScope s_is_length) s.heap.objs.size f cdv))) :
    DSs (cxOf (L2.CX P w) P w K mg base n_is_length "is_length" (defScope s_is_length) f cdv A outer s H E) (mkC (cmOf K mg lk) (kdOf [.z]) Ad H0 io E true) (defBody s_is_length) g_is_length :=
  have nd := (sc_is_length).nd
  (dss_one (rets (de_or (ecmp (q := .b) (cmd_is) (vz 0) (de_non (q := .b))) (de_one (cFD (fd_is_number T) hr (by decide) (takes_of rfl rfl rfl rfl) .fr rfl (ac .b (vz 0) (da_nil (q := .b)))))) (rtn hio)))
theorem fk_is_length (T : Tab K mg) {lk : Addr → Prop} {f : Addr} {fd : FuncData} {dvs : List V} {kws : List (Str × V)} (F : FunD K "is_length" "is_length" (defArgs s_is_length) (defBody s_is_length) (defScope s_is_length) dvs kws f fd) : FnOk P w K mg base (L2.CX P w) 2 f fd (["thing"] : List Str) (spD (cmOf K mg lk) 1 true (callD 1 1 g_is_length)) :=
  fn_ok (kd := (kdOf [.z])) F sc_is_length (by decide) (by decide) fun cdv A outer s H E Ad H0 io hio hr => b_is_length T hio hr
theorem fd_is_length (T : Tab K mg) {lk : Addr → Prop} : FD P w K mg base (cmOf K mg lk) "is_length" 2 (["thing"] : List Str) true 1 1 g_is_length := by
  obtain ⟨f, fd, F, hm⟩ := T.is_length
  exact ⟨f, fd, hm, F.kp, (F.bindsN fun _ _ _ _ _ _ us hl => match us, hl with | [_], _ => rfl), rfl, fk_is_length T F⟩
abbrev s_is_road : Stmt := topS 11
abbrev n_is_road : List Str := ["thing", "many", "start", "end", "length", "width"]
theorem sc_is_road : FnScope n_is_road (["thing", "many"] : List Str) (defScope s_is_road) := ⟨rfl, rfl, rfl, by decide +kernel, rfl, by decide +kernel, by decide +kernel⟩
theorem b_is_road (T : Tab K mg) {lk : Addr → Prop} {cdv : Value} {A : Around} {outer : List PySem.Env} {s : Shared} {H : Hp} {E : XK} {Ad : Addr → Prop} {H0 : Hp} {io : Addr → Prop} {f : Addr} (hio : ∀ a, ¬ io a) (hr : Room 2 (A.deeper (envOfC "is_road" (defScope s_is_road) s.heap.objs.size f cdv))) :
    DSs (cxOf (L2.CX P w) P w K mg base n_is_road "is_road" (defScope s_is_road) f cdv A outer s H E) (mkC (cmOf K mg lk) (kdOf [.z, .z, .z, .z, .z, .z]) Ad H0 io E true) (defBody s_is_road) g_is_road :=
  have nd := (sc_is_road).nd
  (dss_cons
  (ds_if (dt_w (dw_or (dt_not (tval (isi (q := .b) ty_tup rfl T.bi.isinstance rfl T.bi.tuple bb_tuple (vz 0)))) (dw_or1 (tcmp (cmd_ne hr.units) (cB (q := .b) (cd_len rfl) rfl T.bi.len bb_len (ac .b (vz 0) (da_nil (q := .b)))) (de_int (q := .b)))))) (dss_one (rets (de_bl (q := (.n []))) (rtn hio))) dss_nil)
  (dss_cons
  (asg (vz 0) (gtup 4 rfl (gcons (gname 2 nd) (gcons (gname 3 nd) (gcons (gname 4 nd) (gcons (gname 5 nd) dgs_nil))))))
  (dss_cons
  (ds_if (dt_w (dw_or (dt_not (tval (cFD (fd_is_number T) hr (by decide) (takes_of rfl rfl rfl rfl) .fr rfl (ac .b (vz 2) (da_nil (q := .b)))))) (dw_or (dt_not (tval (cFD (fd_is_number T) hr (by decide) (takes_of rfl rfl rfl rfl) .fr rfl (ac .b (vz 3) (da_nil (q := .b)))))) (dw_or1 (dt_not (tval (cFD (fd_is_number T) hr (by decide) (takes_of rfl rfl rfl rfl) .fr rfl (ac .b (vz 5) (da_nil (q := .b)))))))))) (dss_one (rets (de_bl (q := (.n []))) (rtn hio))) dss_nil)
  (dss_one (rets (de_and (ecmp (q := .b) (cmd_lt hr.units) (vz 2) (vz 1)) (de_and (ecmp (q := .b) (cmd_lt hr.units) (vz 3) (vz 1)) (de_and (ecmp (q := .b) (cmd_ne hr.units) (vz 2) (vz 3)) (de_one (cFD (fd_is_length T) hr (by decide) (takes_of rfl rfl rfl rfl) .fr rfl (ac .b (vz 4) (da_nil (q := .b)))))))) (rtn hio))))))
theorem fk_is_road (T : Tab K mg) {lk : Addr → Prop} {f : Addr} {fd : FuncData} {dvs : List V} {kws : List (Str × V)} (F : FunD K "is_road" "is_road" (defArgs s_is_road) (defBody s_is_road) (defScope s_is_road) dvs kws f fd) : FnOk P w K mg base (L2.CX P w) 3 f fd (["thing", "many"] : List Str) (spD (cmOf K mg lk) 2 true (callD 2 6 g_is_road)) :=
  fn_ok (kd := (kdOf [.z, .z, .z, .z, .z, .z])) F sc_is_road (by decide) (by decide) fun cdv A outer s H E Ad H0 io hio hr => b_is_road T hio hr
theorem fd_is_road (T : Tab K mg) {lk : Addr → Prop} : FD P w K mg base (cmOf K mg lk) "is_road" 3 (["thing", "many"] : List Str) true 2 6 g_is_road := by
  obtain ⟨f, fd, F, hm⟩ := T.is_road
  exact ⟨f, fd, hm, F.kp, (F.bindsN fun _ _ _ _ _ _ us hl => match us, hl with | [_, _], _ => rfl), rfl, fk_is_road T F⟩
abbrev s_is_map : Stmt := topS 12
abbrev n_is_map : List Str := ["thing", "many", "roads", "road"]
theorem sc_is_map : FnScope n_is_map (["thing"] : List Str) (defScope s_is_map) := ⟨rfl, rfl, rfl, by decide +kernel, rfl, by decide +kernel, by decide +kernel⟩
theorem b_is_map (T : Tab K mg) {lk : Addr → Prop} {cdv : Value} {A : Around} {outer : List PySem.Env} {s : Shared} {H : Hp} {E : XK} {Ad : Addr → Prop} {H0 : Hp} {io : Addr → Prop} {f : Addr} (hio : ∀ a, ¬ io a) (hr : Room 3 (A.deeper (envOfC "is_map" (defScope s_is_map) s.heap.objs.size f cdv))) :
    DSs (cxOf (L2.CX P w) P w K mg base n_is_map "is_map" (defScope s_is_map) f cdv A outer s H E) (mkC (cmOf K mg lk) (kdOf [.z, .z, .z, .z]) Ad H0 io E true) (defBody s_is_map) g_is_map :=
  have nd := (sc_is_map).nd
  (dss_cons
  (ds_if (dt_w (dw_or (dt_not (tval (isi (q := .b) ty_tup rfl T.bi.isinstance rfl T.bi.tuple bb_tuple (vz 0)))) (dw_or1 (tcmp (cmd_ne hr.units) (cB (q := .b) (cd_len rfl) rfl T.bi.len bb_len (ac .b (vz 0) (da_nil (q := .b)))) (de_int (q := .b)))))) (dss_one (rets (de_bl (q := (.n []))) (rtn hio))) dss_nil)
  (dss_cons
  (asg (vz 0) (gtup 2 rfl (gcons (gname 1 nd) (gcons (gname 2 nd) dgs_nil))))
  (dss_cons
  (ds_if (dt_w (dw_or (dt_not (tval (cFD (fd_is_number T) hr (by decide) (takes_of rfl rfl rfl rfl) .fr rfl (ac .b (vz 1) (da_nil (q := .b)))))) (dw_or1 (dt_not (tchain (cmd_le hr.units) (cmd_le hr.units) (de_int (q := .b)) (vz 1) (gint (q := .b) T.k_MOST_PLACES)))))) (dss_one (rets (de_bl (q := (.n []))) (rtn hio))) dss_nil)
  (dss_cons
  (ds_if (dt_w (dw_or (dt_not (tval (isi (q := .b) ty_lst rfl T.bi.isinstance rfl T.bi.list bb_list (vz 2)))) (dw_or1 (tcmp (cmd_gt hr.units) (cB (q := .b) (cd_len rfl) rfl T.bi.len bb_len (ac .b (vz 2) (da_nil (q := .b)))) (gint (q := .b) T.k_MOST_ROADS))))) (dss_one (rets (de_bl (q := (.n []))) (rtn hio))) dss_nil)
  (dss_one (rets (de_imm (q := (.n [])) (de_weak_b (cB (q := .b) (cd_all rfl rfl) rfl T.bi.all bb_all (ac .b (elc [("road", 3)] rfl nd .n (iseq (vz 2)) (fun _ _ _ _ _ => (gname 3 nd)) (fun _ _ _ _ _ => dts_nil) (fun _ _ _ _ _ => (cFD (fd_is_road T) hr (by decide) takes_nox .fr rfl (ac .b (vz 3) (ac .b (vz 1) (da_nil (q := .b)))))) (ok := blkOk_by (N := n_is_map) (sc := defScope s_is_map) (by decide +kernel))) (da_nil (q := .b)))))) (rtn hio)))))))
theorem fk_is_map (T : Tab K mg) {lk : Addr → Prop} {f : Addr} {fd : FuncData} {dvs : List V} {kws : List (Str × V)} (F : FunD K "is_map" "is_map" (defArgs s_is_map) (defBody s_is_map) (defScope s_is_map) dvs kws f fd) : FnOk P w K mg base (L2.CX P w) 4 f fd (["thing"] : List Str) (spD (cmOf K mg lk) 1 true (callD 1 4 g_is_map)) :=
  fn_ok (kd := (kdOf [.z, .z, .z, .z])) F sc_is_map (by decide) (by decide) fun cdv A outer s H E Ad H0 io hio hr => b_is_map T hio hr
theorem fd_is_map (T : Tab K mg) {lk : Addr → Prop} : FD P w K mg base (cmOf K mg lk) "is_map" 4 (["thing"] : List Str) true 1 4 g_is_map := by
  obtain ⟨f, fd, F, hm⟩ := T.is_map
  exact ⟨f, fd, hm, F.kp, (F.bindsN fun _ _ _ _ _ _ us hl => match us, hl with | [_], _ => rfl), rfl, fk_is_map T F⟩
abbrev s_checked : Stmt := topS 13
abbrev n_checked : List Str := ["thing"]
theorem sc_checked : FnScope n_checked (["thing"] : List Str) (defScope s_checked) := ⟨rfl, rfl, rfl, by decide +kernel, rfl, by decide +kernel, by decide +kernel⟩
theorem b_checked (T : Tab K mg) {lk : Addr → Prop} {cdv : Value} {A : Around} {outer : List PySem.Env} {s : Shared} {H : Hp} {E : XK} {Ad : Addr → Prop} {H0 : Hp} {io : Addr → Prop} {f : Addr} (hio : ∀ a, ¬ io a) (hr : Room 4 (A.deeper (envOfC "checked" (defScope s_checked) s.heap.objs.size f cdv))) :
    DSs (cxOf (L2.CX P w) P w K mg base n_checked "checked" (defScope s_checked) f cdv A outer s H E) (mkC (cmOf K mg lk) (kdOf [.z]) Ad H0 io E true) (defBody s_checked) g_checked :=
  have nd := (sc_checked).nd
  (dss_cons
  (ds_if (dt_not (tval (cFD (fd_is_map T) hr (by decide) (takes_of rfl rfl rfl rfl) .fr rfl (ac .b (vz 0) (da_nil (q := .b)))))) (dss_one (raises T.x_NoMap (takes_of rfl rfl rfl rfl))) dss_nil)
  (dss_one (rets (de_tup (ac .n0 (de_imm (q := (.n [])) (de_weak_b (ix (q := .b) hr.units .b (vz 0) (de_int (q := .b))))) (ac .n0 (cListN rfl T.bi.list (ac .b (ix (q := .b) hr.units .b (vz 0) (de_int (q := .b))) (da_nil (q := .b)))) (da_nil (q := (.n [])))))) (rtn hio))))
theorem fk_checked (T : Tab K mg) {lk : Addr → Prop} {f : Addr} {fd : FuncData} {dvs : List V} {kws : List (Str × V)} (F : FunD K "checked" "checked" (defArgs s_checked) (defBody s_checked) (defScope s_checked) dvs kws f fd) : FnOk P w K mg base (L2.CX P w) 5 f fd (["thing"] : List Str) (spD (cmOf K mg lk) 1 true (callD 1 1 g_checked)) :=
  fn_ok (kd := (kdOf [.z])) F sc_checked (by decide) (by decide) fun cdv A outer s H E Ad H0 io hio hr => b_checked T hio hr
theorem fd_checked (T : Tab K mg) {lk : Addr → Prop} : FD P w K mg base (cmOf K mg lk) "checked" 5 (["thing"] : List Str) true 1 1 g_checked := by
  obtain ⟨f, fd, F, hm⟩ := T.checked
  exact ⟨f, fd, hm, F.kp, (F.bindsN fun _ _ _ _ _ _ us hl => match us, hl with | [_], _ => rfl), rfl, fk_checked T F⟩
abbrev s_added : Stmt := topS 14
abbrev n_added : List Str := ["one", "other"]
theorem sc_added : FnScope n_added (["one", "other"] : List Str) (defScope s_added) := ⟨rfl, rfl, rfl, by decide +kernel, rfl, by decide +kernel, by decide +kernel⟩
theorem b_added (T : Tab K mg) {lk : Addr → Prop} {cdv : Value} {A : Around} {outer : List PySem.Env} {s : Shared} {H : Hp} {E : XK} {Ad : Addr → Prop} {H0 : Hp} {io : Addr → Prop} {f : Addr} (hio : ∀ a, ¬ io a) (hr : Room 0 (A.deeper (envOfC "added" (defScope s_added) s.heap.objs.size f cdv))) :
    DSs (cxOf (L2.CX P w) P w K mg base n_added "added" (defScope s_added) f cdv A outer s H E) (mkC (cmOf K mg lk) (kdOf [.z, .z]) Ad H0 io E true) (defBody s_added) g_added :=
  have nd := (sc_added).nd
  (dss_cons
  (ds_if (dt_w (dw_or (tcmp (cmd_is) (vz 0) (de_non (q := .b))) (dw_or1 (tcmp (cmd_is) (vz 1) (de_non (q := .b)))))) (dss_one (rets (de_non (q := (.n []))) (rtn hio))) dss_nil)
  (dss_one (rets (de_tup (ac .n0 (de_imm (q := (.n [])) (de_weak_b (de_op2 (q := .b) opd_add .b (ix (q := .b) hr.units .b (vz 0) (de_int (q := .b))) (ix (q := .b) hr.units .b (vz 1) (de_int (q := .b)))))) (ac .n0 (de_imm (q := (.n [])) (de_weak_b (de_op2 (q := .b) opd_add .b (ix (q := .b) hr.units .b (vz 0) (de_int (q := .b))) (ix (q := .b) hr.units .b (vz 1) (de_int (q := .b)))))) (da_nil (q := (.n [])))))) (rtn hio))))
theorem fk_added (T : Tab K mg) {lk : Addr → Prop} {f : Addr} {fd : FuncData} {dvs : List V} {kws : List (Str × V)} (F : FunD K "added" "added" (defArgs s_added) (defBody s_added) (defScope s_added) dvs kws f fd) : FnOk P w K mg base (L2.CX P w) 1 f fd (["one", "other"] : List Str) (spD (cmOf K mg lk) 2 true (callD 2 2 g_added)) :=
  fn_ok (kd := (kdOf [.z, .z])) F sc_added (by decide) (by decide) fun cdv A outer s H E Ad H0 io hio hr => b_added T hio hr
theorem fd_added (T : Tab K mg) {lk : Addr → Prop} : FD P w K mg base (cmOf K mg lk) "added" 1 (["one", "other"] : List Str) true 2 2 g_added := by
  obtain ⟨f, fd, F, hm⟩ := T.added
  exact ⟨f, fd, hm, F.kp, (F.bindsN fun _ _ _ _ _ _ us hl => match us, hl with | [_, _], _ => rfl), rfl, fk_added T F⟩
abbrev s_least : Stmt := topS 15
abbrev n_least : List Str := ["some", "cost"]
theorem sc_least : FnScope n_least (["some"] : List Str) (defScope s_least) := ⟨rfl, rfl, rfl, by decide +kernel, rfl, by decide +kernel, by decide +kernel⟩
theorem b_least (T : Tab K mg) {lk : Addr → Prop} {cdv : Value} {A : Around} {outer : List PySem.Env} {s : Shared} {H : Hp} {E : XK} {Ad : Addr → Prop} {H0 : Hp} {io : Addr → Prop} {f : Addr} (hio : ∀ a, ¬ io a) (hr : Room 0 (A.deeper (envOfC "least" (defScope s_least) s.heap.objs.size f cdv))) :
    DSs (cxOf (L2.CX P w) P w K mg base n_least "least" (defScope s_least) f cdv A outer s H E) (mkC (cmOf K mg lk) (kdOf [.z, .z]) Ad H0 io E true) (defBody s_least) g_least :=
  have nd := (sc_least).nd
  (dss_one (rets (de_imm (q := (.n [])) (de_weak_b (cMin0 rfl hr.units rfl T.bi.min (elc [("cost", 1)] rfl nd .n (iseq (vz 0)) (fun _ _ _ _ _ => (gname 1 nd)) (fun _ _ _ _ _ => dts_one (tcmp (cmd_isnot) (vz 1) (de_non (q := .b)))) (fun _ _ _ _ _ => (de_imm (q := (.n [])) (de_weak_b (vz 1)))) (ok := blkOk_by (N := n_least) (sc := defScope s_least) (by decide +kernel)))))) (rtn hio)))
theorem fk_least (T : Tab K mg) {lk : Addr → Prop} {f : Addr} {fd : FuncData} {dvs : List V} {kws : List (Str × V)} (F : FunD K "least" "least" (defArgs s_least) (defBody s_least) (defScope s_least) dvs kws f fd) : FnOk P w K mg base (L2.CX P w) 1 f fd (["some"] : List Str) (spD (cmOf K mg lk) 1 true (callD 1 2 g_least)) :=
  fn_ok (kd := (kdOf [.z, .z])) F sc_least (by decide) (by decide) fun cdv A outer s H E Ad H0 io hio hr => b_least T hio hr
theorem fd_least (T : Tab K mg) {lk : Addr → Prop} : FD P w K mg base (cmOf K mg lk) "least" 1 (["some"] : List Str) true 1 2 g_least := by
  obtain ⟨f, fd, F, hm⟩ := T.least
  exact ⟨f, fd, hm, F.kp, (F.bindsN fun _ _ _ _ _ _ us hl => match us, hl with | [_], _ => rfl), rfl, fk_least T F⟩
abbrev s_road_cost : Stmt := topS 16
abbrev n_road_cost : List Str := ["road"]
theorem sc_road_cost : FnScope n_road_cost (["road"] : List Str) (defScope s_road_cost) := ⟨rfl, rfl, rfl, by decide +kernel, rfl, by decide +kernel, by decide +kernel⟩
theorem b_road_cost (T : Tab K mg) {lk : Addr → Prop} {cdv : Value} {A : Around} {outer : List PySem.Env} {s : Shared} {H : Hp} {E : XK} {Ad : Addr → Prop} {H0 : Hp} {io : Addr → Prop} {f : Addr} (hio : ∀ a, ¬ io a) (hr : Room 0 (A.deeper (envOfC "road_cost" (defScope s_road_cost) s.heap.objs.size f cdv))) :
    DSs (cxOf (L2.CX P w) P w K mg base n_road_cost "road_cost" (defScope s_road_cost) f cdv A outer s H E) (mkC (cmOf K mg lk) (kdOf [.z]) Ad H0 io E true) (defBody s_road_cost) g_road_cost :=
  have nd := (sc_road_cost).nd
  (dss_cons
  (ds_if (tcmp (cmd_is) (ix (q := .b) hr.units .b (vz 0) (de_int (q := .b))) (de_non (q := .b))) (dss_one (rets (de_non (q := (.n []))) (rtn hio))) dss_nil)
  (dss_one (rets (de_tup (ac .n0 (de_imm (q := (.n [])) (de_weak_b (ix (q := .b) hr.units .b (vz 0) (de_int (q := .b))))) (ac .n0 (de_int (q := (.n []))) (da_nil (q := (.n [])))))) (rtn hio))))
theorem fk_road_cost (T : Tab K mg) {lk : Addr → Prop} {f : Addr} {fd : FuncData} {dvs : List V} {kws : List (Str × V)} (F : FunD K "road_cost" "road_cost" (defArgs s_road_cost) (defBody s_road_cost) (defScope s_road_cost) dvs kws f fd) : FnOk P w K mg base (L2.CX P w) 1 f fd (["road"] : List Str) (spD (cmOf K mg lk) 1 true (callD 1 1 g_road_cost)) :=
  fn_ok (kd := (kdOf [.z])) F sc_road_cost (by decide) (by decide) fun cdv A outer s H E Ad H0 io hio hr => b_road_cost T hio hr
theorem fd_road_cost (T : Tab K mg) {lk : Addr → Prop} : FD P w K mg base (cmOf K mg lk) "road_cost" 1 (["road"] : List Str) true 1 1 g_road_cost := by
  obtain ⟨f, fd, F, hm⟩ := T.road_cost
  exact ⟨f, fd, hm, F.kp, (F.bindsN fun _ _ _ _ _ _ us hl => match us, hl with | [_], _ => rfl), rfl, fk_road_cost T F⟩
abbrev s_road_costs : Stmt := topS 18
abbrev n_road_costs : List Str := ["land", "found", "road", "cost", "pair"]
theorem sc_road_costs : FnScope n_road_costs (["land"] : List Str) (defScope s_road_costs) := ⟨rfl, rfl, rfl, by decide +kernel, rfl, by decide +kernel, by decide +kernel⟩
theorem b_road_costs (T : Tab K mg) {lk : Addr → Prop} {cdv : Value} {A : Around} {outer : List PySem.Env} {s : Shared} {H : Hp} {E : XK} {Ad : Addr → Prop} {H0 : Hp} {io : Addr → Prop} {f : Addr} (hio : ∀ a, ¬ io a) (hr : Room 1 (A.deeper (envOfC "road_costs" (defScope s_road_costs) s.heap.objs.size f cdv))) :
    DSs (cxOf (L2.CX P w) P w K mg base n_road_costs "road_costs" (defScope s_road_costs) f cdv A outer s H E) (mkC (cmOf K mg lk) (kdOf [.z, .m, .z, .z, .z]) Ad H0 io E true) (defBody s_road_costs) g_road_costs :=
  have nd := (sc_road_costs).nd
  (dss_cons
  (setm 1 nd (de_dT (q := (.n []))))
  (dss_cons
  (fors (passes_of rfl) rfl (iseq (ix hr.units .z (vz 0) (de_int (q := .z)))) (gname 2 nd)
  (dss_cons
  (setz 3 nd (de_zn (cFD (fd_road_cost T) hr (by decide) (takes_of rfl rfl rfl rfl) .fr rfl (ac .b (vz 2) (da_nil (q := .b))))))
  (dss_cons
  (setz 4 nd (de_tup (ac .z (ix hr.units .z (vz 2) (de_int (q := .z))) (ac .z (ix hr.units .z (vz 2) (de_int (q := .z))) (da_nil (q := .z))))))
  (dss_one (ds_if (dt_w (dw_and (tcmp (cmd_isnot) (vz 3) (de_non (q := .b))) (dw_and1 (dt_w (dw_or (tcmp (cmd_notin hr.units) (vz 4) (vm 1)) (dw_or1 (tcmp (cmd_lt hr.units) (vz 3) (ix (q := .b) hr.units .b (vm 1) (vz 4))))))))) (dss_one (puts hr.units (de_imm (q := (.n [])) (de_weak_b (vz 3))) (pnm 1) (vz 4))) dss_nil)))))
  (dss_one (rets (vm 1) (rtn hio)))))
theorem fk_road_costs (T : Tab K mg) {lk : Addr → Prop} {f : Addr} {fd : FuncData} {dvs : List V} {kws : List (Str × V)} (F : FunD K "road_costs" "road_costs" (defArgs s_road_costs) (defBody s_road_costs) (defScope s_road_costs) dvs kws f fd) : FnOk P w K mg base (L2.CX P w) 2 f fd (["land"] : List Str) (spD (cmOf K mg lk) 1 true (callD 1 5 g_road_costs)) :=
  fn_ok (kd := (kdOf [.z, .m, .z, .z, .z])) F sc_road_costs (by decide) (by decide) fun cdv A outer s H E Ad H0 io hio hr => b_road_costs T hio hr
theorem fd_road_costs (T : Tab K mg) {lk : Addr → Prop} : FD P w K mg base (cmOf K mg lk) "road_costs" 2 (["land"] : List Str) true 1 5 g_road_costs := by
  obtain ⟨f, fd, F, hm⟩ := T.road_costs
  exact ⟨f, fd, hm, F.kp, (F.bindsN fun _ _ _ _ _ _ us hl => match us, hl with | [_], _ => rfl), rfl, fk_road_costs T F⟩
abbrev s_over : Stmt := topS 19
abbrev n_over : List Str := ["found", "ends", "middle", "one", "other", "cost"]
theorem sc_over : FnScope n_over (["found", "ends", "middle"] : List Str) (defScope s_over) := ⟨rfl, rfl, rfl, by decide +kernel, rfl, by decide +kernel, by decide +kernel⟩
theorem b_over (T : Tab K mg) {lk : Addr → Prop} {cdv : Value} {A : Around} {outer : List PySem.Env} {s : Shared} {H : Hp} {E : XK} {Ad : Addr → Prop} {H0 : Hp} {io : Addr → Prop} {f : Addr} {v0 : V} (hr : Room 1 (A.deeper (envOfC "over" (defScope s_over) s.heap.objs.size f cdv))) :
    DSs (cxOf (L2.CX P w) P w K mg base n_over "over" (defScope s_over) f cdv A outer s H E) (mkCp (cmOf K mg lk) (kdOf [.m, .z, .z, .z, .z, .z]) Ad H0 io E v0) (defBody s_over) g_over :=
  have nd := (sc_over).nd
  (dss_one (fors (passes_of rfl) rfl (iseq (vz 1)) (gname 3 nd)
  (dss_one (fors (passes_of rfl) rfl (iseq (vz 1)) (gname 4 nd)
  (dss_one (ds_if (dt_w (dw_and (tcmp (cmd_ne hr.units) (vz 3) (vz 4)) (dw_and (tcmp (cmd_in hr.units) (de_tup (ac .b (vz 3) (ac .b (vz 2) (da_nil (q := .b))))) (vm 0)) (dw_and1 (tcmp (cmd_in hr.units) (de_tup (ac .b (vz 2) (ac .b (vz 4) (da_nil (q := .b))))) (vm 0)))))) (dss_cons
  (setz 5 nd (de_zn (cFD (fd_added T) hr (by decide) (takes_of rfl rfl rfl rfl) .fr rfl (ac .b (ix (q := .b) hr.units .b (vm 0) (de_tup (ac .b (vz 3) (ac .b (vz 2) (da_nil (q := .b)))))) (ac .b (ix (q := .b) hr.units .b (vm 0) (de_tup (ac .b (vz 2) (ac .b (vz 4) (da_nil (q := .b)))))) (da_nil (q := .b)))))))
  (dss_one (ds_if (dt_w (dw_or (tcmp (cmd_notin hr.units) (de_tup (ac .b (vz 3) (ac .b (vz 4) (da_nil (q := .b))))) (vm 0)) (dw_or1 (tcmp (cmd_lt hr.units) (vz 5) (ix (q := .b) hr.units .b (vm 0) (de_tup (ac .b (vz 3) (ac .b (vz 4) (da_nil (q := .b)))))))))) (dss_one (puts hr.units (de_imm (q := (.n [])) (de_weak_b (vz 5))) (pnm 0) (de_tup (ac .b (vz 3) (ac .b (vz 4) (da_nil (q := .b))))))) dss_nil))) dss_nil))))))
theorem fk_over (T : Tab K mg) {lk : Addr → Prop} {f : Addr} {fd : FuncData} {dvs : List V} {kws : List (Str × V)} (F : FunD K "over" "over" (defArgs s_over) (defBody s_over) (defScope s_over) dvs kws f fd) : FnOk P w K mg base (L2.CX P w) 2 f fd (["found", "ends", "middle"] : List Str) (spM (cmOf K mg lk) 3 (callM 3 6 g_over)) :=
  fn_okM (kd := (kdOf [.m, .z, .z, .z, .z, .z])) F sc_over rfl (by decide) (by decide) fun cdv A outer s H E Ad H0 io v0 hr => b_over T hr
theorem fd_over (T : Tab K mg) {lk : Addr → Prop} : FDM P w K mg base (cmOf K mg lk) "over" 2 (["found", "ends", "middle"] : List Str) 3 6 g_over := by
  obtain ⟨f, fd, F, hm⟩ := T.over
  exact ⟨f, fd, hm, F.kp, (F.bindsN fun _ _ _ _ _ _ us hl => match us, hl with | [_, _, _], _ => rfl), rfl, fk_over T F⟩
abbrev s_arc_costs : Stmt := topS 20
abbrev n_arc_costs : List Str := ["land", "order", "found", "rank", "middle"]
theorem sc_arc_costs : FnScope n_arc_costs (["land", "order"] : List Str) (defScope s_arc_costs) := ⟨rfl, rfl, rfl, by decide +kernel, rfl, by decide +kernel, by decide +kernel⟩
theorem b_arc_costs (T : Tab K mg) {lk : Addr → Prop} {cdv : Value} {A : Around} {outer : List PySem.Env} {s : Shared} {H : Hp} {E : XK} {Ad : Addr → Prop} {H0 : Hp} {io : Addr → Prop} {f : Addr} (hio : ∀ a, ¬ io a) (hr : Room 2 (A.deeper (envOfC "arc_costs" (defScope s_arc_costs) s.heap.objs.size f cdv))) :
    DSs (cxOf (L2.CX P w) P w K mg base n_arc_costs "arc_costs" (defScope s_arc_costs) f cdv A outer s H E) (mkC (cmOf K mg lk) (kdOf [.z, .z, .m, .z, .z]) Ad H0 io E true) (defBody s_arc_costs) g_arc_costs :=
  have nd := (sc_arc_costs).nd
  (dss_cons
  (setm 2 nd (cFD (fd_road_costs T) hr (by decide) (takes_of rfl rfl rfl rfl) .fr rfl (ac .b (vz 0) (da_nil (q := .b)))))
  (dss_cons
  (fors (passes_of rfl) rfl (ienum rfl T.bi.enumerate (vz 1)) (gtup 2 rfl (gcons (gname 3 nd) (gcons (gname 4 nd) dgs_nil)))
  (dss_one (expM (de_callM (fd_over T) hr (by decide) (takes_of rfl rfl rfl rfl) rfl (pnm 2) (ac .z (esl (vz 1) (do_some (de_op2 (q := .b) opd_add .b (vz 3) (de_int (q := .b)))) do_none) (ac .z (vz 4) (da_nil (q := .z))))))))
  (dss_one (rets (vm 2) (rtn hio)))))
theorem fk_arc_costs (T : Tab K mg) {lk : Addr → Prop} {f : Addr} {fd : FuncData} {dvs : List V} {kws : List (Str × V)} (F : FunD K "arc_costs" "arc_costs" (defArgs s_arc_costs) (defBody s_arc_costs) (defScope s_arc_costs) dvs kws f fd) : FnOk P w K mg base (L2.CX P w) 3 f fd (["land", "order"] : List Str) (spD (cmOf K mg lk) 2 true (callD 2 5 g_arc_costs)) :=
  fn_ok (kd := (kdOf [.z, .z, .m, .z, .z])) F sc_arc_costs (by decide) (by decide) fun cdv A outer s H E Ad H0 io hio hr => b_arc_costs T hio hr
theorem fd_arc_costs (T : Tab K mg) {lk : Addr → Prop} : FD P w K mg base (cmOf K mg lk) "arc_costs" 3 (["land", "order"] : List Str) true 2 5 g_arc_costs := by
  obtain ⟨f, fd, F, hm⟩ := T.arc_costs
  exact ⟨f, fd, hm, F.kp, (F.bindsN fun _ _ _ _ _ _ us hl => match us, hl with | [_, _], _ => rfl), rfl, fk_arc_costs T F⟩
abbrev s_middle_of : Stmt := topS 21
abbrev n_middle_of : List Str := ["found", "pair", "below", "middle"]
theorem sc_middle_of : FnScope n_middle_of (["found", "pair", "below"] : List Str) (defScope s_middle_of) := ⟨rfl, rfl, rfl, by decide +kernel, rfl, by decide +kernel, by decide +kernel⟩
theorem b_middle_of (T : Tab K mg) {lk : Addr → Prop} {cdv : Value} {A : Around} {outer : List PySem.Env} {s : Shared} {H : Hp} {E : XK} {Ad : Addr → Prop} {H0 : Hp} {io : Addr → Prop} {f : Addr} (hio : ∀ a, ¬ io a) (hr : Room 1 (A.deeper (envOfC "middle_of" (defScope s_middle_of) s.heap.objs.size f cdv))) :
    DSs (cxOf (L2.CX P w) P w K mg base n_middle_of "middle_of" (defScope s_middle_of) f cdv A outer s H E) (mkC (cmOf K mg lk) (kdOf [.z, .z, .z, .z]) Ad H0 io E true) (defBody s_middle_of) g_middle_of :=
  have nd := (sc_middle_of).nd
  (dss_cons
  (fors (passes_of rfl) rfl (iseq (vz 2)) (gname 3 nd)
  (dss_one (ds_if (dt_w (dw_and (tcmp (cmd_in hr.units) (de_tup (ac .b (ix (q := .b) hr.units .b (vz 1) (de_int (q := .b))) (ac .b (vz 3) (da_nil (q := .b))))) (vz 0)) (dw_and1 (tcmp (cmd_in hr.units) (de_tup (ac .b (vz 3) (ac .b (ix (q := .b) hr.units .b (vz 1) (de_int (q := .b))) (da_nil (q := .b))))) (vz 0))))) (dss_one (ds_if (tcmp (cmd_eq hr.units) (cFD (fd_added T) hr (by decide) (takes_of rfl rfl rfl rfl) .fr rfl (ac .b (ix (q := .b) hr.units .b (vz 0) (de_tup (ac .b (ix (q := .b) hr.units .b (vz 1) (de_int (q := .b))) (ac .b (vz 3) (da_nil (q := .b)))))) (ac .b (ix (q := .b) hr.units .b (vz 0) (de_tup (ac .b (vz 3) (ac .b (ix (q := .b) hr.units .b (vz 1) (de_int (q := .b))) (da_nil (q := .b)))))) (da_nil (q := .b))))) (ix (q := .b) hr.units .b (vz 0) (vz 1))) (dss_one (rets (de_imm (q := (.n [])) (de_weak_b (vz 3))) (rtn hio))) dss_nil)) dss_nil)))
  (dss_one (rets (de_non (q := (.n []))) (rtn hio))))
theorem fk_middle_of (T : Tab K mg) {lk : Addr → Prop} {f : Addr} {fd : FuncData} {dvs : List V} {kws : List (Str × V)} (F : FunD K "middle_of" "middle_of" (defArgs s_middle_of) (defBody s_middle_of) (defScope s_middle_of) dvs kws f fd) : FnOk P w K mg base (L2.CX P w) 2 f fd (["found", "pair", "below"] : List Str) (spD (cmOf K mg lk) 3 true (callD 3 4 g_middle_of)) :=
  fn_ok (kd := (kdOf [.z, .z, .z, .z])) F sc_middle_of (by decide) (by decide) fun cdv A outer s H E Ad H0 io hio hr => b_middle_of T hio hr
theorem fd_middle_of (T : Tab K mg) {lk : Addr → Prop} : FD P w K mg base (cmOf K mg lk) "middle_of" 2 (["found", "pair", "below"] : List Str) true 3 4 g_middle_of := by
  obtain ⟨f, fd, F, hm⟩ := T.middle_of
  exact ⟨f, fd, hm, F.kp, (F.bindsN fun _ _ _ _ _ _ us hl => match us, hl with | [_, _, _], _ => rfl), rfl, fk_middle_of T F⟩
abbrev s_middles : Stmt := topS 22
abbrev n_middles : List Str := ["land", "order", "found", "roads", "told", "pair", "below"]
theorem sc_middles : FnScope n_middles (["land", "order"] : List Str) (defScope s_middles) := ⟨rfl, rfl, rfl, by decide +kernel, rfl, by decide +kernel, by decide +kernel⟩
theorem b_middles (T : Tab K mg) {lk : Addr → Prop} {cdv : Value} {A : Around} {outer : List PySem.Env} {s : Shared} {H : Hp} {E : XK} {Ad : Addr → Prop} {H0 : Hp} {io : Addr → Prop} {f : Addr} (hio : ∀ a, ¬ io a) (hr : Room 3 (A.deeper (envOfC "middles" (defScope s_middles) s.heap.objs.size f cdv))) :
    DSs (cxOf (L2.CX P w) P w K mg base n_middles "middles" (defScope s_middles) f cdv A outer s H E) (mkC (cmOf K mg lk) (kdOf [.z, .z, .z, .z, .m, .z, .z]) Ad H0 io E true) (defBody s_middles) g_middles :=
  have nd := (sc_middles).nd
  (dss_cons
  (setz 2 nd (de_zn (cFD (fd_arc_costs T) hr (by decide) (takes_of rfl rfl rfl rfl) .fr rfl (ac .b (vz 0) (ac .b (vz 1) (da_nil (q := .b)))))))
  (dss_cons
  (setz 3 nd (de_zn (cFD (fd_road_costs T) hr (by decide) (takes_of rfl rfl rfl rfl) .fr rfl (ac .b (vz 0) (da_nil (q := .b))))))
  (dss_cons
  (setm 4 nd (de_dT (q := (.n []))))
  (dss_cons
  (forK 2 (passes_of rfl) rfl (fun lk H0 => (gname 5 nd))
  (fun lk H0 => (dss_one (ds_if (tcmp (cmd_eq hr.units) (de_get (q := .b) hr.units .b (vz 3) (vz 5)) (ix (q := .b) hr.units .b (vz 2) (vz 5))) (dss_one (puts hr.units (de_non (q := (.n []))) (pnm 4) (vz 5))) (dss_cons
  (setz 6 nd (esl (vz 1) do_none (do_some (cB (q := .b) (cd_min rfl rfl) rfl T.bi.min bb_min (ac .b (de_index (q := .b) (vz 1) (ix (q := .b) hr.units .b (vz 5) (de_int (q := .b)))) (ac .b (de_index (q := .b) (vz 1) (ix (q := .b) hr.units .b (vz 5) (de_int (q := .b)))) (da_nil (q := .b))))))))
  (dss_one (puts hr.units (cFD (fd_middle_of T) hr (by decide) takes_nox .fr rfl (ac .b (vz 2) (ac .b (vz 5) (ac .b (vz 6) (da_nil (q := .b)))))) (pnm 4) (vz 5))))))))
  (dss_one (rets (vm 4) (rtn hio)))))))
theorem fk_middles (T : Tab K mg) {lk : Addr → Prop} {f : Addr} {fd : FuncData} {dvs : List V} {kws : List (Str × V)} (F : FunD K "middles" "middles" (defArgs s_middles) (defBody s_middles) (defScope s_middles) dvs kws f fd) : FnOk P w K mg base (L2.CX P w) 4 f fd (["land", "order"] : List Str) (spD (cmOf K mg lk) 2 true (callD 2 7 g_middles)) :=
  fn_ok (kd := (kdOf [.z, .z, .z, .z, .m, .z, .z])) F sc_middles (by decide) (by decide) fun cdv A outer s H E Ad H0 io hio hr => b_middles T hio hr
theorem fd_middles (T : Tab K mg) {lk : Addr → Prop} : FD P w K mg base (cmOf K mg lk) "middles" 4 (["land", "order"] : List Str) true 2 7 g_middles := by
  obtain ⟨f, fd, F, hm⟩ := T.middles
  exact ⟨f, fd, hm, F.kp, (F.bindsN fun _ _ _ _ _ _ us hl => match us, hl with | [_, _], _ => rfl), rfl, fk_middles T F⟩
abbrev s_is_place : Stmt := topS 24
abbrev n_is_place : List Str := ["land", "thing"]
theorem sc_is_place : FnScope n_is_place (["land", "thing"] : List Str) (defScope s_is_place) := ⟨rfl, rfl, rfl, by decide +kernel, rfl, by decide +kernel, by decide +kernel⟩
theorem b_is_place (T : Tab K mg) {lk : Addr → Prop} {cdv : Value} {A : Around} {outer : List PySem.Env} {s : Shared} {H : Hp} {E : XK} {Ad : Addr → Prop} {H0 : Hp} {io : Addr → Prop} {f : Addr} (hio : ∀ a, ¬ io a) (hr : Room 0 (A.deeper (envOfC "is_place" (defScope s_is_place) s.heap.objs.size f cdv))) :
    DSs (cxOf (L2.CX P w) P w K mg base n_is_place "is_place" (defScope s_is_place) f cdv A outer s H E) (mkC (cmOf K mg lk) (kdOf [.z, .z]) Ad H0 io E true) (defBody s_is_place) g_is_place :=
  have nd := (sc_is_place).nd
  (dss_one (rets (de_and (isi (q := .b) ty_int rfl T.bi.isinstance rfl T.bi.int bb_int (vz 1)) (de_and (de_not (q := .b) (isi (q := .b) ty_bol rfl T.bi.isinstance rfl T.bi.bool bb_bool (vz 1))) (de_one (echain (q := (.n [])) (cmd_le hr.units) (cmd_lt hr.units) (de_int (q := .b)) (vz 1) (ix (q := .b) hr.units .b (vz 0) (de_int (q := .b))))))) (rtn hio)))
theorem fk_is_place (T : Tab K mg) {lk : Addr → Prop} {f : Addr} {fd : FuncData} {dvs : List V} {kws : List (Str × V)} (F : FunD K "is_place" "is_place" (defArgs s_is_place) (defBody s_is_place) (defScope s_is_place) dvs kws f fd) : FnOk P w K mg base (L2.CX P w) 1 f fd (["land", "thing"] : List Str) (spD (cmOf K mg lk) 2 true (callD 2 2 g_is_place)) :=
  fn_ok (kd := (kdOf [.z, .z])) F sc_is_place (by decide) (by decide) fun cdv A outer s H E Ad H0 io hio hr => b_is_place T hio hr
theorem fd_is_place (T : Tab K mg) {lk : Addr → Prop} : FD P w K mg base (cmOf K mg lk) "is_place" 1 (["land", "thing"] : List Str) true 2 2 g_is_place := by
  obtain ⟨f, fd, F, hm⟩ := T.is_place
  exact ⟨f, fd, hm, F.kp, (F.bindsN fun _ _ _ _ _ _ us hl => match us, hl with | [_, _], _ => rfl), rfl, fk_is_place T F⟩
abbrev s_checked_order : Stmt := topS 25
abbrev n_checked_order : List Str := ["land", "thing", "found", "place"]
theorem sc_checked_order : FnScope n_checked_order (["land", "thing"] : List Str) (defScope s_checked_order) := ⟨rfl, rfl, rfl, by decide +kernel, rfl, by decide +kernel, by decide +kernel⟩
theorem b_checked_order (T : Tab K mg) {lk : Addr → Prop} {cdv : Value} {A : Around} {outer : List PySem.Env} {s : Shared} {H : Hp} {E : XK} {Ad : Addr → Prop} {H0 : Hp} {io : Addr → Prop} {f : Addr} (hio : ∀ a, ¬ io a) (hr : Room 1 (A.deeper (envOfC "checked_order" (defScope s_checked_order) s.heap.objs.size f cdv))) :
    DSs (cxOf (L2.CX P w) P w K mg base n_checked_order "checked_order" (defScope s_checked_order) f cdv A outer s H E) (mkC (cmOf K mg lk) (kdOf [.z, .z, .m, .z]) Ad H0 io E true) (defBody s_checked_order) g_checked_order :=
  have nd := (sc_checked_order).nd
  (dss_cons
  (ds_if (dt_w (dw_or (dt_not (tval (isi (q := .b) ty_lst rfl T.bi.isinstance rfl T.bi.list bb_list (vz 1)))) (dw_or1 (tcmp (cmd_ne hr.units) (cB (q := .b) (cd_len rfl) rfl T.bi.len bb_len (ac .b (vz 1) (da_nil (q := .b)))) (ix (q := .b) hr.units .b (vz 0) (de_int (q := .b))))))) (dss_one (raises T.x_NoOrder (takes_of rfl rfl rfl rfl))) dss_nil)
  (dss_cons
  (setm 2 nd (de_lst (da_nil (q := (.n [])))))
  (dss_cons
  (fors (passes_of rfl) rfl (iseq (vz 1)) (gname 3 nd)
  (dss_cons
  (ds_if (dt_w (dw_or (dt_not (tval (cFD (fd_is_place T) hr (by decide) (takes_of rfl rfl rfl rfl) .fr rfl (ac .b (vz 0) (ac .b (vz 3) (da_nil (q := .b))))))) (dw_or1 (tcmp (cmd_in hr.units) (vz 3) (vm 2))))) (dss_one (raises T.x_NoOrder (takes_of rfl rfl rfl rfl))) dss_nil)
  (dss_one (ds_op rfl ol_append PySem.F.plainAttrs_list PySem.F.slot_list_append PySem.F.type_list_append (pnm 2) (ac .n0 (de_imm (q := (.n [])) (de_weak_b (vz 3))) (da_nil (q := (.n []))))))))
  (dss_one (rets (vm 2) (rtn hio))))))
theorem fk_checked_order (T : Tab K mg) {lk : Addr → Prop} {f : Addr} {fd : FuncData} {dvs : List V} {kws : List (Str × V)} (F : FunD K "checked_order" "checked_order" (defArgs s_checked_order) (defBody s_checked_order) (defScope s_checked_order) dvs kws f fd) : FnOk P w K mg base (L2.CX P w) 2 f fd (["land", "thing"] : List Str) (spD (cmOf K mg lk) 2 true (callD 2 4 g_checked_order)) :=
  fn_ok (kd := (kdOf [.z, .z, .m, .z])) F sc_checked_order (by decide) (by decide) fun cdv A outer s H E Ad H0 io hio hr => b_checked_order T hio hr
theorem fd_checked_order (T : Tab K mg) {lk : Addr → Prop} : FD P w K mg base (cmOf K mg lk) "checked_order" 2 (["land", "thing"] : List Str) true 2 4 g_checked_order := by
  obtain ⟨f, fd, F, hm⟩ := T.checked_order
  exact ⟨f, fd, hm, F.kp, (F.bindsN fun _ _ _ _ _ _ us hl => match us, hl with | [_, _], _ => rfl), rfl, fk_checked_order T F⟩
abbrev s_bows_of : Stmt := topS 26
abbrev n_bows_of : List Str := ["land", "bows", "road"]
theorem sc_bows_of : FnScope n_bows_of (["land"] : List Str) (defScope s_bows_of) := ⟨rfl, rfl, rfl, by decide +kernel, rfl, by decide +kernel, by decide +kernel⟩
theorem b_bows_of (T : Tab K mg) {lk : Addr → Prop} {cdv : Value} {A : Around} {outer : List PySem.Env} {s : Shared} {H : Hp} {E : XK} {Ad : Addr → Prop} {H0 : Hp} {io : Addr → Prop} {f : Addr} (hio : ∀ a, ¬ io a) (hr : Room 0 (A.deeper (envOfC "bows_of" (defScope s_bows_of) s.heap.objs.size f cdv))) :
    DSs (cxOf (L2.CX P w) P w K mg base n_bows_of "bows_of" (defScope s_bows_of) f cdv A outer s H E) (mkC (cmOf K mg lk) (kdOf [.z, .m, .z]) Ad H0 io E true) (defBody s_bows_of) g_bows_of :=
  have nd := (sc_bows_of).nd
  (dss_cons
  (setm 1 nd (de_dT (q := (.n []))))
  (dss_cons
  (fors (passes_of rfl) rfl (iseq (ix hr.units .z (vz 0) (de_int (q := .z)))) (gname 2 nd)
  (dss_one (ds_if (tcmp (cmd_isnot) (ix (q := .b) hr.units .b (vz 2) (de_int (q := .b))) (de_non (q := .b))) (dss_one (puts hr.units (de_bl (q := (.n []))) (pnm 1) (de_tup (ac .b (ix (q := .b) hr.units .b (vz 2) (de_int (q := .b))) (ac .b (ix (q := .b) hr.units .b (vz 2) (de_int (q := .b))) (da_nil (q := .b))))))) dss_nil)))
  (dss_one (rets (vm 1) (rtn hio)))))
theorem fk_bows_of (T : Tab K mg) {lk : Addr → Prop} {f : Addr} {fd : FuncData} {dvs : List V} {kws : List (Str × V)} (F : FunD K "bows_of" "bows_of" (defArgs s_bows_of) (defBody s_bows_of) (defScope s_bows_of) dvs kws f fd) : FnOk P w K mg base (L2.CX P w) 1 f fd (["land"] : List Str) (spD (cmOf K mg lk) 1 true (callD 1 3 g_bows_of)) :=
  fn_ok (kd := (kdOf [.z, .m, .z])) F sc_bows_of (by decide) (by decide) fun cdv A outer s H E Ad H0 io hio hr => b_bows_of T hio hr
theorem fd_bows_of (T : Tab K mg) {lk : Addr → Prop} : FD P w K mg base (cmOf K mg lk) "bows_of" 1 (["land"] : List Str) true 1 3 g_bows_of := by
  obtain ⟨f, fd, F, hm⟩ := T.bows_of
  exact ⟨f, fd, hm, F.kp, (F.bindsN fun _ _ _ _ _ _ us hl => match us, hl with | [_], _ => rfl), rfl, fk_bows_of T F⟩
abbrev s_lacking : Stmt := topS 27
abbrev n_lacking : List Str := ["bows", "left", "place", "found", "one", "other"]
theorem sc_lacking : FnScope n_lacking (["bows", "left", "place"] : List Str) (defScope s_lacking) := ⟨rfl, rfl, rfl, by decide +kernel, rfl, by decide +kernel, by decide +kernel⟩
theorem b_lacking (T : Tab K mg) {lk : Addr → Prop} {cdv : Value} {A : Around} {outer : List PySem.Env} {s : Shared} {H : Hp} {E : XK} {Ad : Addr → Prop} {H0 : Hp} {io : Addr → Prop} {f : Addr} (hio : ∀ a, ¬ io a) (hr : Room 0 (A.deeper (envOfC "lacking" (defScope s_lacking) s.heap.objs.size f cdv))) :
    DSs (cxOf (L2.CX P w) P w K mg base n_lacking "lacking" (defScope s_lacking) f cdv A outer s H E) (mkC (cmOf K mg lk) (kdOf [.z, .z, .z, .m, .z, .z]) Ad H0 io E true) (defBody s_lacking) g_lacking :=
  have nd := (sc_lacking).nd
  (dss_cons
  (setm 3 nd (de_lst (da_nil (q := (.n [])))))
  (dss_cons
  (fors (passes_of rfl) rfl (iseq (vz 1)) (gname 4 nd)
  (dss_one (fors (passes_of rfl) rfl (iseq (vz 1)) (gname 5 nd)
  (dss_one (ds_if (dt_w (dw_and (tcmp (cmd_ne hr.units) (vz 4) (vz 5)) (dw_and (tcmp (cmd_ne hr.units) (vz 4) (vz 2)) (dw_and (tcmp (cmd_ne hr.units) (vz 5) (vz 2)) (dw_and1 (tcmp (cmd_notin hr.units) (de_tup (ac .b (vz 4) (ac .b (vz 5) (da_nil (q := .b))))) (vz 0))))))) (dss_one (ds_if (dt_w (dw_and (tcmp (cmd_in hr.units) (de_tup (ac .b (vz 4) (ac .b (vz 2) (da_nil (q := .b))))) (vz 0)) (dw_and1 (tcmp (cmd_in hr.units) (de_tup (ac .b (vz 2) (ac .b (vz 5) (da_nil (q := .b))))) (vz 0))))) (dss_one (ds_op rfl ol_append PySem.F.plainAttrs_list PySem.F.slot_list_append PySem.F.type_list_append (pnm 3) (ac .n0 (de_tup (ac .n0 (de_imm (q := (.n [])) (de_weak_b (vz 4))) (ac .n0 (de_imm (q := (.n [])) (de_weak_b (vz 5))) (da_nil (q := (.n [])))))) (da_nil (q := (.n [])))))) dss_nil)) dss_nil)))))
  (dss_one (rets (vm 3) (rtn hio)))))
theorem fk_lacking (T : Tab K mg) {lk : Addr → Prop} {f : Addr} {fd : FuncData} {dvs : List V} {kws : List (Str × V)} (F : FunD K "lacking" "lacking" (defArgs s_lacking) (defBody s_lacking) (defScope s_lacking) dvs kws f fd) : FnOk P w K mg base (L2.CX P w) 1 f fd (["bows", "left", "place"] : List Str) (spD (cmOf K mg lk) 3 true (callD 3 6 g_lacking)) :=
  fn_ok (kd := (kdOf [.z, .z, .z, .m, .z, .z])) F sc_lacking (by decide) (by decide) fun cdv A outer s H E Ad H0 io hio hr => b_lacking T hio hr
theorem fd_lacking (T : Tab K mg) {lk : Addr → Prop} : FD P w K mg base (cmOf K mg lk) "lacking" 1 (["bows", "left", "place"] : List Str) true 3 6 g_lacking := by
  obtain ⟨f, fd, F, hm⟩ := T.lacking
  exact ⟨f, fd, hm, F.kp, (F.bindsN fun _ _ _ _ _ _ us hl => match us, hl with | [_, _, _], _ => rfl), rfl, fk_lacking T F⟩
abbrev s_ranked : Stmt := topS 28
abbrev n_ranked : List Str := ["land", "bows", "left", "order", "weights", "place", "lightest", "pair"]
theorem sc_ranked : FnScope n_ranked (["land"] : List Str) (defScope s_ranked) := ⟨rfl, rfl, rfl, by decide +kernel, rfl, by decide +kernel, by decide +kernel⟩
theorem b_ranked (T : Tab K mg) {lk : Addr → Prop} {cdv : Value} {A : Around} {outer : List PySem.Env} {s : Shared} {H : Hp} {E : XK} {Ad : Addr → Prop} {H0 : Hp} {io : Addr → Prop} {f : Addr} (hio : ∀ a, ¬ io a) (hr : Room 1 (A.deeper (envOfC "ranked" (defScope s_ranked) s.heap.objs.size f cdv))) :
    DSs (cxOf (L2.CX P w) P w K mg base n_ranked "ranked" (defScope s_ranked) f cdv A outer s H E) (mkC (cmOf K mg lk) (kdOf [.z, .m, .m, .m, .z, .z, .z, .z]) Ad H0 io E true) (defBody s_ranked) g_ranked :=
  have nd := (sc_ranked).nd
  (dss_cons
  (setm 1 nd (cFD (fd_bows_of T) hr (by decide) (takes_of rfl rfl rfl rfl) .fr rfl (ac .b (vz 0) (da_nil (q := .b)))))
  (dss_cons
  (setm 2 nd (de_listRange rfl rfl T.bi.list rfl T.bi.range (ix (q := .b) hr.units .b (vz 0) (de_int (q := .b)))))
  (dss_cons
  (setm 3 nd (de_lst (da_nil (q := (.n [])))))
  (dss_cons
  (ds_while 1000 (passes_of rfl) (tcmp (cmd_gt hr.units) (cB (q := .b) (cd_len rfl) rfl T.bi.len bb_len (ac .b (vm 2) (da_nil (q := .b)))) (de_int (q := .b)))
  (dss_cons
  (setzLcI 4 [("place", 5)] rfl nd .z (dii_seq (vm 2)) (fun _ _ _ _ _ => (gname 5 nd)) (fun _ _ _ _ _ => dts_nil) (fun _ _ _ _ _ => (de_imm (q := .z) (de_weak_b (cB (q := .b) (cd_len rfl) rfl T.bi.len bb_len (ac .b (cFD (fd_lacking T) hr (by decide) takes_nox .fr rfl (ac .b (vm 1) (ac .b (vm 2) (ac .b (vz 5) (da_nil (q := .b)))))) (da_nil (q := .b))))))) (ok := blkOk_by (N := n_ranked) (sc := defScope s_ranked) (by decide +kernel)))
  (dss_cons
  (setz 6 nd (de_imm (q := .z) (de_weak_b (ix (q := .b) hr.units .b (vm 2) (de_index (q := .b) (vz 4) (cB (q := .b) (cd_min rfl rfl) rfl T.bi.min bb_min (ac .b (vz 4) (da_nil (q := .b)))))))))
  (dss_cons
  (fors (passes_of rfl) rfl (iseq (de_zn (cFD (fd_lacking T) hr (by decide) (takes_of rfl rfl rfl rfl) .fr rfl (ac .b (vm 1) (ac .b (vm 2) (ac .b (vz 6) (da_nil (q := .b)))))))) (gname 7 nd)
  (dss_one (puts hr.units (de_bl (q := (.n []))) (pnm 1) (vz 7))))
  (dss_cons
  (ds_op rfl ol_remove PySem.F.plainAttrs_list PySem.F.slot_list_remove PySem.F.type_list_remove (pnm 2) (ac .n0 (de_imm (q := (.n [])) (de_weak_b (vz 6))) (da_nil (q := (.n [])))))
  (dss_one (ds_op rfl ol_append PySem.F.plainAttrs_list PySem.F.slot_list_append PySem.F.type_list_append (pnm 3) (ac .n0 (de_imm (q := (.n [])) (de_weak_b (vz 6))) (da_nil (q := (.n [])))))))))))
  (dss_one (rets (vm 3) (rtn hio)))))))
theorem fk_ranked (T : Tab K mg) {lk : Addr → Prop} {f : Addr} {fd : FuncData} {dvs : List V} {kws : List (Str × V)} (F : FunD K "ranked" "ranked" (defArgs s_ranked) (defBody s_ranked) (defScope s_ranked) dvs kws f fd) : FnOk P w K mg base (L2.CX P w) 2 f fd (["land"] : List Str) (spD (cmOf K mg lk) 1 true (callD 1 8 g_ranked)) :=
  fn_ok (kd := (kdOf [.z, .m, .m, .m, .z, .z, .z, .z])) F sc_ranked (by decide) (by decide) fun cdv A outer s H E Ad H0 io hio hr => b_ranked T hio hr
theorem fd_ranked (T : Tab K mg) {lk : Addr → Prop} : FD P w K mg base (cmOf K mg lk) "ranked" 2 (["land"] : List Str) true 1 8 g_ranked := by
  obtain ⟨f, fd, F, hm⟩ := T.ranked
  exact ⟨f, fd, hm, F.kp, (F.bindsN fun _ _ _ _ _ _ us hl => match us, hl with | [_], _ => rfl), rfl, fk_ranked T F⟩
abbrev s_costs_from : Stmt := topS 30
abbrev n_costs_from : List Str := ["land", "start", "found", "changed", "road", "cost"]
theorem sc_costs_from : FnScope n_costs_from (["land", "start"] : List Str) (defScope s_costs_from) := ⟨rfl, rfl, rfl, by decide +kernel, rfl, by decide +kernel, by decide +kernel⟩
theorem b_costs_from (T : Tab K mg) {lk : Addr → Prop} {cdv : Value} {A : Around} {outer : List PySem.Env} {s : Shared} {H : Hp} {E : XK} {Ad : Addr → Prop} {H0 : Hp} {io : Addr → Prop} {f : Addr} (hio : ∀ a, ¬ io a) (hr : Room 1 (A.deeper (envOfC "costs_from" (defScope s_costs_from) s.heap.objs.size f cdv))) :
    DSs (cxOf (L2.CX P w) P w K mg base n_costs_from "costs_from" (defScope s_costs_from) f cdv A outer s H E) (mkC (cmOf K mg lk) (kdOf [.z, .z, .m, .z, .z, .z]) Ad H0 io E true) (defBody s_costs_from) g_costs_from :=
  have nd := (sc_costs_from).nd
  (dss_cons
  (setm 2 nd (de_repN (de_lst (ac .b (de_non (q := .b)) (da_nil (q := .b)))) (ix (q := .b) hr.units .b (vz 0) (de_int (q := .b)))))
  (dss_cons
  (puts hr.units (de_tup (ac .n0 (de_int (q := (.n []))) (ac .n0 (de_int (q := (.n []))) (da_nil (q := (.n [])))))) (pnm 2) (vz 1))
  (dss_cons
  (setz 3 nd (de_bl (q := .z)))
  (dss_cons
  (ds_while 1000 (passes_of rfl) (tval (vz 3))
  (dss_cons
  (setz 3 nd (de_bl (q := .z)))
  (dss_one (fors (passes_of rfl) rfl (iseq (ix hr.units .z (vz 0) (de_int (q := .z)))) (gname 4 nd)
  (dss_cons
  (setz 5 nd (de_zn (cFD (fd_least T) hr (by decide) (takes_of rfl rfl rfl rfl) .fr rfl (ac .b (de_lst (ac .b (ix (q := .b) hr.units .b (vm 2) (ix (q := .b) hr.units .b (vz 4) (de_int (q := .b)))) (ac .b (cFD (fd_added T) hr (by decide) (takes_of rfl rfl rfl rfl) .fr rfl (ac .b (ix (q := .b) hr.units .b (vm 2) (ix (q := .b) hr.units .b (vz 4) (de_int (q := .b)))) (ac .b (cFD (fd_road_cost T) hr (by decide) (takes_of rfl rfl rfl rfl) .fr rfl (ac .b (vz 4) (da_nil (q := .b)))) (da_nil (q := .b))))) (da_nil (q := .b))))) (da_nil (q := .b))))))
  (dss_one (ds_if (tcmp (cmd_ne hr.units) (vz 5) (ix (q := .b) hr.units .b (vm 2) (ix (q := .b) hr.units .b (vz 4) (de_int (q := .b))))) (dss_cons
  (puts hr.units (de_imm (q := (.n [])) (de_weak_b (vz 5))) (pnm 2) (ix (q := .b) hr.units .b (vz 4) (de_int (q := .b))))
  (dss_one (setz 3 nd (de_bl (q := .z))))) dss_nil)))))))
  (dss_one (rets (vm 2) (rtn hio)))))))
theorem fk_costs_from (T : Tab K mg) {lk : Addr → Prop} {f : Addr} {fd : FuncData} {dvs : List V} {kws : List (Str × V)} (F : FunD K "costs_from" "costs_from" (defArgs s_costs_from) (defBody s_costs_from) (defScope s_costs_from) dvs kws f fd) : FnOk P w K mg base (L2.CX P w) 2 f fd (["land", "start"] : List Str) (spD (cmOf K mg lk) 2 true (callD 2 6 g_costs_from)) :=
  fn_ok (kd := (kdOf [.z, .z, .m, .z, .z, .z])) F sc_costs_from (by decide) (by decide) fun cdv A outer s H E Ad H0 io hio hr => b_costs_from T hio hr
theorem fd_costs_from (T : Tab K mg) {lk : Addr → Prop} : FD P w K mg base (cmOf K mg lk) "costs_from" 2 (["land", "start"] : List Str) true 2 6 g_costs_from := by
  obtain ⟨f, fd, F, hm⟩ := T.costs_from
  exact ⟨f, fd, hm, F.kp, (F.bindsN fun _ _ _ _ _ _ us hl => match us, hl with | [_, _], _ => rfl), rfl, fk_costs_from T F⟩
abbrev s_Ladder_found_best : Stmt := inClass (topS 32) 9
abbrev n_Ladder_found_best : List Str := ["self", "found", "u", "costs", "w"]
theorem sc_Ladder_found_best : FnScope n_Ladder_found_best (["self"] : List Str) (defScope s_Ladder_found_best) := ⟨rfl, rfl, rfl, by decide +kernel, rfl, by decide +kernel, by decide +kernel⟩
theorem b_Ladder_found_best (T : Tab K mg) {lk : Addr → Prop} {cdv : Value} {A : Around} {outer : List PySem.Env} {s : Shared} {H : Hp} {E : XK} {Ad : Addr → Prop} {H0 : Hp} {io : Addr → Prop} {f : Addr} (hio : ∀ a, ¬ io a) (hr : Room 2 (A.deeper (envOfC "Ladder.found_best" (defScope s_Ladder_found_best) s.heap.objs.size f cdv))) :
    DSs (cxOf (L2.CX P w) P w K mg base n_Ladder_found_best "Ladder.found_best" (defScope s_Ladder_found_best) f cdv A outer s H E) (mkC (cmOf K mg lk) (kdOf [.z, .m, .z, .z, .z]) Ad H0 io E true) (defBody s_Ladder_found_best) g_Ladder_found_best :=
  have nd := (sc_Ladder_found_best).nd
  (dss_cons
  (setm 1 nd (de_lst (da_nil (q := (.n [])))))
  (dss_cons
  (fors (passes_of rfl) rfl (irange rfl T.bi.range (ix (q := .b) hr.units .b (fld T.f_land (vz 0)) (de_int (q := .b)))) (gname 2 nd)
  (dss_cons
  (setz 3 nd (de_zn (cFD (fd_costs_from T) hr (by decide) (takes_of rfl rfl rfl rfl) .fr rfl (ac .b (fld T.f_land (vz 0)) (ac .b (vz 2) (da_nil (q := .b)))))))
  (dss_one (fors (passes_of rfl) rfl (irange rfl T.bi.range (ix (q := .b) hr.units .b (fld T.f_land (vz 0)) (de_int (q := .b)))) (gname 4 nd)
  (dss_one (ds_if (dt_w (dw_and (tcmp (cmd_in hr.units) (de_tup (ac .b (vz 2) (ac .b (vz 4) (da_nil (q := .b))))) (fld T.f_laid (vz 0))) (dw_and1 (tcmp (cmd_le hr.units) (ix (q := .b) hr.units .b (fld T.f_laid (vz 0)) (de_tup (ac .b (vz 2) (ac .b (vz 4) (da_nil (q := .b)))))) (ix (q := .b) hr.units .b (vz 3) (vz 4)))))) (dss_one (ds_op rfl ol_append PySem.F.plainAttrs_list PySem.F.slot_list_append PySem.F.type_list_append (pnm 1) (ac .n0 (de_tup (ac .n0 (de_imm (q := (.n [])) (de_weak_b (vz 2))) (ac .n0 (de_imm (q := (.n [])) (de_weak_b (vz 4))) (da_nil (q := (.n [])))))) (da_nil (q := (.n [])))))) dss_nil))))))
  (dss_one (rets (vm 1) (rtn hio)))))
theorem fk_Ladder_found_best (T : Tab K mg) {lk : Addr → Prop} {f : Addr} {fd : FuncData} {dvs : List V} {kws : List (Str × V)} (F : FunD K "found_best" "Ladder.found_best" (defArgs s_Ladder_found_best) (defBody s_Ladder_found_best) (defScope s_Ladder_found_best) dvs kws f fd) : FnOk P w K mg base (L2.CX P w) 3 f fd (["self"] : List Str) (spD (cmOf K mg lk) 1 true (callD 1 5 g_Ladder_found_best)) :=
  fn_ok (kd := (kdOf [.z, .m, .z, .z, .z])) F sc_Ladder_found_best (by decide) (by decide) fun cdv A outer s H E Ad H0 io hio hr => b_Ladder_found_best T hio hr
theorem me_Ladder_found_best_0 (T : Tab K mg) {lk : Addr → Prop} : MeE P w K mg base (cmOf K mg lk) "Ladder" "found_best" 3 true 1 [] (callD 1 5 g_Ladder_found_best) := by
  obtain ⟨C, f, fd, h1, h2, h3, F⟩ := T.m_Ladder_found_best
  exact ⟨C, f, fd, (["self"] : List Str), [], [], h1, h2, h3, (F.bindsN fun _ _ _ _ _ _ us hl => match us, hl with | [_], _ => rfl), .nil, (fun _ => .nil), rfl, ln_callD, fk_Ladder_found_best T F⟩
theorem mt_tb_Ladder_found_best_0 (T : Tab K mg) {lk : Addr → Prop} : MeTb P w K mg base (cmOf K mg lk) "found_best" 3 true 1 [] tb_Ladder_found_best := (.cons (me_Ladder_found_best_0 T) (by decide) .nil)
abbrev s_Ladder___init__ : Stmt := inClass (topS 32) 0
abbrev n_Ladder___init__ : List Str := ["self", "land", "order"]
theorem sc_Ladder___init__ : FnScope n_Ladder___init__ (["self", "land", "order"] : List Str) (defScope s_Ladder___init__) := ⟨rfl, rfl, rfl, by decide +kernel, rfl, by decide +kernel, by decide +kernel⟩
theorem b_Ladder___init__ (T : Tab K mg) {lk : Addr → Prop} {cdv : Value} {A : Around} {outer : List PySem.Env} {s : Shared} {H : Hp} {E : XK} {Ad : Addr → Prop} {H0 : Hp} {io : Addr → Prop} {f : Addr} {v0 : V} (hr : Room 5 (A.deeper (envOfC "Ladder.__init__" (defScope s_Ladder___init__) s.heap.objs.size f cdv))) :
    DSs (cxOf (L2.CX P w) P w K mg base n_Ladder___init__ "Ladder.__init__" (defScope s_Ladder___init__) f cdv A outer s H E) (mkCp (cmOf K mg lk) (kdOf [.m, .z, .z]) Ad H0 io E v0) (defBody s_Ladder___init__) g_Ladder___init__ :=
  have nd := (sc_Ladder___init__).nd
  (dss_cons
  (setfld T.f_land (pnm 0) (cFD (fd_checked T) hr (by decide) (takes_of rfl rfl rfl rfl) .fr rfl (ac .b (vz 1) (da_nil (q := .b)))))
  (dss_cons
  (ds_if (tcmp (cmd_is) (vz 2) (de_non (q := .b))) (dss_one (setfld T.f_line (pnm 0) (cFD (fd_ranked T) hr (by decide) (takes_of rfl rfl rfl rfl) .fr rfl (ac .b (fld T.f_land (vm 0)) (da_nil (q := .b)))))) (dss_one (setfld T.f_line (pnm 0) (cFD (fd_checked_order T) hr (by decide) (takes_of rfl rfl rfl rfl) .fr rfl (ac .b (fld T.f_land (vm 0)) (ac .b (vz 2) (da_nil (q := .b))))))))
  (dss_cons
  (setfld T.f_laid (pnm 0) (cFD (fd_arc_costs T) hr (by decide) (takes_of rfl rfl rfl rfl) .fr rfl (ac .b (fld T.f_land (vm 0)) (ac .b (fld T.f_line (vm 0)) (da_nil (q := .b))))))
  (dss_cons
  (setfld T.f_inner (pnm 0) (cFD (fd_middles T) hr (by decide) (takes_of rfl rfl rfl rfl) .fr rfl (ac .b (fld T.f_land (vm 0)) (ac .b (fld T.f_line (vm 0)) (da_nil (q := .b))))))
  (dss_one (setfld T.f_best (pnm 0) (meth0 (mt_tb_Ladder_found_best_0 T) hr (by decide) (takes_of rfl rfl rfl rfl) .fr .b (vm 0))))))))
theorem fk_Ladder___init__ (T : Tab K mg) {lk : Addr → Prop} {f : Addr} {fd : FuncData} {dvs : List V} {kws : List (Str × V)} (F : FunD K "__init__" "Ladder.__init__" (defArgs s_Ladder___init__) (defBody s_Ladder___init__) (defScope s_Ladder___init__) dvs kws f fd) : FnOk P w K mg base (L2.CX P w) 6 f fd (["self", "land", "order"] : List Str) (spM (cmOf K mg lk) 3 (callM 3 3 g_Ladder___init__)) :=
  fn_okM (kd := (kdOf [.m, .z, .z])) F sc_Ladder___init__ rfl (by decide) (by decide) fun cdv A outer s H E Ad H0 io v0 hr => b_Ladder___init__ T hr
theorem mk_Ladder_0 (T : Tab K mg) {lk : Addr → Prop} : MkTb P w K mg base (cmOf K mg lk) "Ladder" 6 3 [] (callM 3 3 g_Ladder___init__) := by
  obtain ⟨C, f, fd, h1, h3, F⟩ := T.i_Ladder
  exact ⟨C, f, fd, (["self", "land", "order"] : List Str), [], [], h1, cmOf_of h1, h3, (bnd0 (F.binds1 (ps := ["self", "land", "order"]) 3 1 (List.cons_ne_nil _ _) rfl fun _ _ _ _ _ _ _ us its l1 l2 => match us, its, l1, l2 with | [_, _, _], [_], _, _ => ⟨_, rfl, by kernel_rfl⟩)), .nil, (fun _ => .nil), rfl, ln_callM, fk_Ladder___init__ T F⟩
theorem mk_Ladder_1 (T : Tab K mg) {lk : Addr → Prop} : MkTb P w K mg base (cmOf K mg lk) "Ladder" 6 3 [.non] (callM 3 3 g_Ladder___init__) := by
  obtain ⟨C, f, fd, h1, h3, F⟩ := T.i_Ladder
  obtain ⟨ds, hv, hb⟩ := (F.binds1 (ps := ["self", "land", "order"]) 2 0 (List.cons_ne_nil _ _) rfl fun _ _ _ _ _ _ _ us its l1 l2 => match us, its, l1, l2 with | [_, _], [_], _, _ => ⟨_, rfl, by kernel_rfl⟩)
  exact ⟨C, f, fd, (["self", "land", "order"] : List Str), ds, _, h1, cmOf_of h1, h3, hb, hv, (fun _ => (Rps.cons (F := []) (G := []) .non .nil)), rfl, ln_callM, fk_Ladder___init__ T F⟩
theorem mkk_Ladder (T : Tab K mg) {lk : Addr → Prop} : MkKb P w K mg base (cmOf K mg lk) "Ladder" 6 1 "order" (callM 3 3 g_Ladder___init__) := by
  obtain ⟨C, f, fd, h1, h3, F⟩ := T.i_Ladder
  obtain ⟨its, hb⟩ := F.kbindsD (ps := ["self", "land", "order"]) 2 ["order"] (fun vs _ zs => vs ++ zs) (List.cons_ne_nil _ _) (fun r _ r' => r.append r') fun _ _ _ _ _ _ _ us its ws l1 l2 l3 => match us, its, ws, l1, l2, l3 with | [_, _], [_], [_], _, _, _ => ⟨_, rfl, by kernel_rfl⟩
  exact ⟨C, f, fd, (["self", "land", "order"] : List Str), h1, cmOf_of h1, h3, hb, rfl, ln_callM, fk_Ladder___init__ T F⟩
abbrev s_Ladder_told_map : Stmt := inClass (topS 32) 1
abbrev n_Ladder_told_map : List Str := ["self"]
theorem sc_Ladder_told_map : FnScope n_Ladder_told_map (["self"] : List Str) (defScope s_Ladder_told_map) := ⟨rfl, rfl, rfl, by decide +kernel, rfl, by decide +kernel, by decide +kernel⟩
theorem b_Ladder_told_map (T : Tab K mg) {lk : Addr → Prop} {cdv : Value} {A : Around} {outer : List PySem.Env} {s : Shared} {H : Hp} {E : XK} {Ad : Addr → Prop} {H0 : Hp} {io : Addr → Prop} {f : Addr} (hio : ∀ a, ¬ io a) (hr : Room 0 (A.deeper (envOfC "Ladder.told_map" (defScope s_Ladder_told_map) s.heap.objs.size f cdv))) :
    DSs (cxOf (L2.CX P w) P w K mg base n_Ladder_told_map "Ladder.told_map" (defScope s_Ladder_told_map) f cdv A outer s H E) (mkC (cmOf K mg lk) (kdOf [.z]) Ad H0 io E true) (defBody s_Ladder_told_map) g_Ladder_told_map :=
  have nd := (sc_Ladder_told_map).nd
  (dss_one (rets (de_tup (ac .n0 (de_imm (q := (.n [])) (de_weak_b (ix (q := .b) hr.units .b (fld T.f_land (vz 0)) (de_int (q := .b))))) (ac .n0 (cListN rfl T.bi.list (ac .b (ix (q := .b) hr.units .b (fld T.f_land (vz 0)) (de_int (q := .b))) (da_nil (q := .b)))) (da_nil (q := (.n [])))))) (rtn hio)))
theorem fk_Ladder_told_map (T : Tab K mg) {lk : Addr → Prop} {f : Addr} {fd : FuncData} {dvs : List V} {kws : List (Str × V)} (F : FunD K "told_map" "Ladder.told_map" (defArgs s_Ladder_told_map) (defBody s_Ladder_told_map) (defScope s_Ladder_told_map) dvs kws f fd) : FnOk P w K mg base (L2.CX P w) 1 f fd (["self"] : List Str) (spD (cmOf K mg lk) 1 true (callD 1 1 g_Ladder_told_map)) :=
  fn_ok (kd := (kdOf [.z])) F sc_Ladder_told_map (by decide) (by decide) fun cdv A outer s H E Ad H0 io hio hr => b_Ladder_told_map T hio hr
theorem me_Ladder_told_map_0 (T : Tab K mg) {lk : Addr → Prop} : MeE P w K mg base (cmOf K mg lk) "Ladder" "told_map" 1 true 1 [] (callD 1 1 g_Ladder_told_map) := by
  obtain ⟨C, f, fd, h1, h2, h3, F⟩ := T.m_Ladder_told_map
  exact ⟨C, f, fd, (["self"] : List Str), [], [], h1, h2, h3, (F.bindsN fun _ _ _ _ _ _ us hl => match us, hl with | [_], _ => rfl), .nil, (fun _ => .nil), rfl, ln_callD, fk_Ladder_told_map T F⟩
abbrev s_Ladder_order : Stmt := inClass (topS 32) 2
abbrev n_Ladder_order : List Str := ["self"]
theorem sc_Ladder_order : FnScope n_Ladder_order (["self"] : List Str) (defScope s_Ladder_order) := ⟨rfl, rfl, rfl, by decide +kernel, rfl, by decide +kernel, by decide +kernel⟩
theorem b_Ladder_order (T : Tab K mg) {lk : Addr → Prop} {cdv : Value} {A : Around} {outer : List PySem.Env} {s : Shared} {H : Hp} {E : XK} {Ad : Addr → Prop} {H0 : Hp} {io : Addr → Prop} {f : Addr} (hio : ∀ a, ¬ io a) (hr : Room 0 (A.deeper (envOfC "Ladder.order" (defScope s_Ladder_order) s.heap.objs.size f cdv))) :
    DSs (cxOf (L2.CX P w) P w K mg base n_Ladder_order "Ladder.order" (defScope s_Ladder_order) f cdv A outer s H E) (mkC (cmOf K mg lk) (kdOf [.z]) Ad H0 io E true) (defBody s_Ladder_order) g_Ladder_order :=
  have nd := (sc_Ladder_order).nd
  (dss_one (rets (cListN rfl T.bi.list (ac .b (fld T.f_line (vz 0)) (da_nil (q := .b)))) (rtn hio)))
theorem fk_Ladder_order (T : Tab K mg) {lk : Addr → Prop} {f : Addr} {fd : FuncData} {dvs : List V} {kws : List (Str × V)} (F : FunD K "order" "Ladder.order" (defArgs s_Ladder_order) (defBody s_Ladder_order) (defScope s_Ladder_order) dvs kws f fd) : FnOk P w K mg base (L2.CX P w) 1 f fd (["self"] : List Str) (spD (cmOf K mg lk) 1 true (callD 1 1 g_Ladder_order)) :=
  fn_ok (kd := (kdOf [.z])) F sc_Ladder_order (by decide) (by decide) fun cdv A outer s H E Ad H0 io hio hr => b_Ladder_order T hio hr
theorem me_Ladder_order_0 (T : Tab K mg) {lk : Addr → Prop} : MeE P w K mg base (cmOf K mg lk) "Ladder" "order" 1 true 1 [] (callD 1 1 g_Ladder_order) := by
  obtain ⟨C, f, fd, h1, h2, h3, F⟩ := T.m_Ladder_order
  exact ⟨C, f, fd, (["self"] : List Str), [], [], h1, h2, h3, (F.bindsN fun _ _ _ _ _ _ us hl => match us, hl with | [_], _ => rfl), .nil, (fun _ => .nil), rfl, ln_callD, fk_Ladder_order T F⟩
abbrev s_Ladder_arcs : Stmt := inClass (topS 32) 3
abbrev n_Ladder_arcs : List Str := ["self"]
theorem sc_Ladder_arcs : FnScope n_Ladder_arcs (["self"] : List Str) (defScope s_Ladder_arcs) := ⟨rfl, rfl, rfl, by decide +kernel, rfl, by decide +kernel, by decide +kernel⟩
theorem b_Ladder_arcs (T : Tab K mg) {lk : Addr → Prop} {cdv : Value} {A : Around} {outer : List PySem.Env} {s : Shared} {H : Hp} {E : XK} {Ad : Addr → Prop} {H0 : Hp} {io : Addr → Prop} {f : Addr} (hio : ∀ a, ¬ io a) (hr : Room 0 (A.deeper (envOfC "Ladder.arcs" (defScope s_Ladder_arcs) s.heap.objs.size f cdv))) :
    DSs (cxOf (L2.CX P w) P w K mg base n_Ladder_arcs "Ladder.arcs" (defScope s_Ladder_arcs) f cdv A outer s H E) (mkC (cmOf K mg lk) (kdOf [.z]) Ad H0 io E true) (defBody s_Ladder_arcs) g_Ladder_arcs :=
  have nd := (sc_Ladder_arcs).nd
  (dss_one (rets (cBN (cd_sorted rfl rfl hr.units) rfl T.bi.sorted bb_sorted (ac .b (fld T.f_laid (vz 0)) (da_nil (q := .b)))) (rtn hio)))
theorem fk_Ladder_arcs (T : Tab K mg) {lk : Addr → Prop} {f : Addr} {fd : FuncData} {dvs : List V} {kws : List (Str × V)} (F : FunD K "arcs" "Ladder.arcs" (defArgs s_Ladder_arcs) (defBody s_Ladder_arcs) (defScope s_Ladder_arcs) dvs kws f fd) : FnOk P w K mg base (L2.CX P w) 1 f fd (["self"] : List Str) (spD (cmOf K mg lk) 1 true (callD 1 1 g_Ladder_arcs)) :=
  fn_ok (kd := (kdOf [.z])) F sc_Ladder_arcs (by decide) (by decide) fun cdv A outer s H E Ad H0 io hio hr => b_Ladder_arcs T hio hr
theorem me_Ladder_arcs_0 (T : Tab K mg) {lk : Addr → Prop} : MeE P w K mg base (cmOf K mg lk) "Ladder" "arcs" 1 true 1 [] (callD 1 1 g_Ladder_arcs) := by
  obtain ⟨C, f, fd, h1, h2, h3, F⟩ := T.m_Ladder_arcs
  exact ⟨C, f, fd, (["self"] : List Str), [], [], h1, h2, h3, (F.bindsN fun _ _ _ _ _ _ us hl => match us, hl with | [_], _ => rfl), .nil, (fun _ => .nil), rfl, ln_callD, fk_Ladder_arcs T F⟩
abbrev s_Ladder_arc : Stmt := inClass (topS 32) 4
abbrev n_Ladder_arc : List Str := ["self", "u", "w"]
theorem sc_Ladder_arc : FnScope n_Ladder_arc (["self", "u", "w"] : List Str) (defScope s_Ladder_arc) := ⟨rfl, rfl, rfl, by decide +kernel, rfl, by decide +kernel, by decide +kernel⟩
theorem b_Ladder_arc (T : Tab K mg) {lk : Addr → Prop} {cdv : Value} {A : Around} {outer : List PySem.Env} {s : Shared} {H : Hp} {E : XK} {Ad : Addr → Prop} {H0 : Hp} {io : Addr → Prop} {f : Addr} (hio : ∀ a, ¬ io a) (hr : Room 1 (A.deeper (envOfC "Ladder.arc" (defScope s_Ladder_arc) s.heap.objs.size f cdv))) :
    DSs (cxOf (L2.CX P w) P w K mg base n_Ladder_arc "Ladder.arc" (defScope s_Ladder_arc) f cdv A outer s H E) (mkC (cmOf K mg lk) (kdOf [.z, .z, .z]) Ad H0 io E true) (defBody s_Ladder_arc) g_Ladder_arc :=
  have nd := (sc_Ladder_arc).nd
  (dss_cons
  (ds_if (dt_w (dw_or (dt_not (tval (cFD (fd_is_place T) hr (by decide) (takes_of rfl rfl rfl rfl) .fr rfl (ac .b (fld T.f_land (vz 0)) (ac .b (vz 1) (da_nil (q := .b))))))) (dw_or (dt_not (tval (cFD (fd_is_place T) hr (by decide) (takes_of rfl rfl rfl rfl) .fr rfl (ac .b (fld T.f_land (vz 0)) (ac .b (vz 2) (da_nil (q := .b))))))) (dw_or1 (tcmp (cmd_notin hr.units) (de_tup (ac .b (vz 1) (ac .b (vz 2) (da_nil (q := .b))))) (fld T.f_laid (vz 0))))))) (dss_one (raises T.x_NoArc (takes_of rfl rfl rfl rfl))) dss_nil)
  (dss_one (rets (de_tup (ac .n0 (de_imm (q := (.n [])) (de_weak_b (vz 1))) (ac .n0 (de_imm (q := (.n [])) (de_weak_b (vz 2))) (da_nil (q := (.n [])))))) (rtn hio))))
theorem fk_Ladder_arc (T : Tab K mg) {lk : Addr → Prop} {f : Addr} {fd : FuncData} {dvs : List V} {kws : List (Str × V)} (F : FunD K "arc" "Ladder.arc" (defArgs s_Ladder_arc) (defBody s_Ladder_arc) (defScope s_Ladder_arc) dvs kws f fd) : FnOk P w K mg base (L2.CX P w) 2 f fd (["self", "u", "w"] : List Str) (spD (cmOf K mg lk) 3 true (callD 3 3 g_Ladder_arc)) :=
  fn_ok (kd := (kdOf [.z, .z, .z])) F sc_Ladder_arc (by decide) (by decide) fun cdv A outer s H E Ad H0 io hio hr => b_Ladder_arc T hio hr
theorem me_Ladder_arc_0 (T : Tab K mg) {lk : Addr → Prop} : MeE P w K mg base (cmOf K mg lk) "Ladder" "arc" 2 true 3 [] (callD 3 3 g_Ladder_arc) := by
  obtain ⟨C, f, fd, h1, h2, h3, F⟩ := T.m_Ladder_arc
  exact ⟨C, f, fd, (["self", "u", "w"] : List Str), [], [], h1, h2, h3, (F.bindsN fun _ _ _ _ _ _ us hl => match us, hl with | [_, _, _], _ => rfl), .nil, (fun _ => .nil), rfl, ln_callD, fk_Ladder_arc T F⟩
theorem mt_tb_Ladder_arc_0 (T : Tab K mg) {lk : Addr → Prop} : MeTb P w K mg base (cmOf K mg lk) "arc" 2 true 3 [] tb_Ladder_arc := (.cons (me_Ladder_arc_0 T) (by decide) .nil)
abbrev s_Ladder_cost : Stmt := inClass (topS 32) 5
abbrev n_Ladder_cost : List Str := ["self", "u", "w"]
theorem sc_Ladder_cost : FnScope n_Ladder_cost (["self", "u", "w"] : List Str) (defScope s_Ladder_cost) := ⟨rfl, rfl, rfl, by decide +kernel, rfl, by decide +kernel, by decide +kernel⟩
theorem b_Ladder_cost (T : Tab K mg) {lk : Addr → Prop} {cdv : Value} {A : Around} {outer : List PySem.Env} {s : Shared} {H : Hp} {E : XK} {Ad : Addr → Prop} {H0 : Hp} {io : Addr → Prop} {f : Addr} (hio : ∀ a, ¬ io a) (hr : Room 2 (A.deeper (envOfC "Ladder.cost" (defScope s_Ladder_cost) s.heap.objs.size f cdv))) :
    DSs (cxOf (L2.CX P w) P w K mg base n_Ladder_cost "Ladder.cost" (defScope s_Ladder_cost) f cdv A outer s H E) (mkC (cmOf K mg lk) (kdOf [.z, .z, .z]) Ad H0 io E true) (defBody s_Ladder_cost) g_Ladder_cost :=
  have nd := (sc_Ladder_cost).nd
  (dss_one (rets (de_imm (q := (.n [])) (de_weak_b (ix (q := .b) hr.units .b (fld T.f_laid (vz 0)) (meth (mt_tb_Ladder_arc_0 T) hr (by decide) (takes_of rfl rfl rfl rfl) .fr .b (vz 0) (ac .b (vz 1) (ac .b (vz 2) (da_nil (q := .b)))))))) (rtn hio)))
theorem fk_Ladder_cost (T : Tab K mg) {lk : Addr → Prop} {f : Addr} {fd : FuncData} {dvs : List V} {kws : List (Str × V)} (F : FunD K "cost" "Ladder.cost" (defArgs s_Ladder_cost) (defBody s_Ladder_cost) (defScope s_Ladder_cost) dvs kws f fd) : FnOk P w K mg base (L2.CX P w) 3 f fd (["self", "u", "w"] : List Str) (spD (cmOf K mg lk) 3 true (callD 3 3 g_Ladder_cost)) :=
  fn_ok (kd := (kdOf [.z, .z, .z])) F sc_Ladder_cost (by decide) (by decide) fun cdv A outer s H E Ad H0 io hio hr => b_Ladder_cost T hio hr
theorem me_Ladder_cost_0 (T : Tab K mg) {lk : Addr → Prop} : MeE P w K mg base (cmOf K mg lk) "Ladder" "cost" 3 true 3 [] (callD 3 3 g_Ladder_cost) := by
  obtain ⟨C, f, fd, h1, h2, h3, F⟩ := T.m_Ladder_cost
  exact ⟨C, f, fd, (["self", "u", "w"] : List Str), [], [], h1, h2, h3, (F.bindsN fun _ _ _ _ _ _ us hl => match us, hl with | [_, _, _], _ => rfl), .nil, (fun _ => .nil), rfl, ln_callD, fk_Ladder_cost T F⟩
abbrev s_Ladder_middle : Stmt := inClass (topS 32) 6
abbrev n_Ladder_middle : List Str := ["self", "u", "w"]
theorem sc_Ladder_middle : FnScope n_Ladder_middle (["self", "u", "w"] : List Str) (defScope s_Ladder_middle) := ⟨rfl, rfl, rfl, by decide +kernel, rfl, by decide +kernel, by decide +kernel⟩
theorem b_Ladder_middle (T : Tab K mg) {lk : Addr → Prop} {cdv : Value} {A : Around} {outer : List PySem.Env} {s : Shared} {H : Hp} {E : XK} {Ad : Addr → Prop} {H0 : Hp} {io : Addr → Prop} {f : Addr} (hio : ∀ a, ¬ io a) (hr : Room 2 (A.deeper (envOfC "Ladder.middle" (defScope s_Ladder_middle) s.heap.objs.size f cdv))) :
    DSs (cxOf (L2.CX P w) P w K mg base n_Ladder_middle "Ladder.middle" (defScope s_Ladder_middle) f cdv A outer s H E) (mkC (cmOf K mg lk) (kdOf [.z, .z, .z]) Ad H0 io E true) (defBody s_Ladder_middle) g_Ladder_middle :=
  have nd := (sc_Ladder_middle).nd
  (dss_one (rets (de_imm (q := (.n [])) (de_weak_b (ix (q := .b) hr.units .b (fld T.f_inner (vz 0)) (meth (mt_tb_Ladder_arc_0 T) hr (by decide) (takes_of rfl rfl rfl rfl) .fr .b (vz 0) (ac .b (vz 1) (ac .b (vz 2) (da_nil (q := .b)))))))) (rtn hio)))
theorem fk_Ladder_middle (T : Tab K mg) {lk : Addr → Prop} {f : Addr} {fd : FuncData} {dvs : List V} {kws : List (Str × V)} (F : FunD K "middle" "Ladder.middle" (defArgs s_Ladder_middle) (defBody s_Ladder_middle) (defScope s_Ladder_middle) dvs kws f fd) : FnOk P w K mg base (L2.CX P w) 3 f fd (["self", "u", "w"] : List Str) (spD (cmOf K mg lk) 3 true (callD 3 3 g_Ladder_middle)) :=
  fn_ok (kd := (kdOf [.z, .z, .z])) F sc_Ladder_middle (by decide) (by decide) fun cdv A outer s H E Ad H0 io hio hr => b_Ladder_middle T hio hr
theorem me_Ladder_middle_0 (T : Tab K mg) {lk : Addr → Prop} : MeE P w K mg base (cmOf K mg lk) "Ladder" "middle" 3 true 3 [] (callD 3 3 g_Ladder_middle) := by
  obtain ⟨C, f, fd, h1, h2, h3, F⟩ := T.m_Ladder_middle
  exact ⟨C, f, fd, (["self", "u", "w"] : List Str), [], [], h1, h2, h3, (F.bindsN fun _ _ _ _ _ _ us hl => match us, hl with | [_, _, _], _ => rfl), .nil, (fun _ => .nil), rfl, ln_callD, fk_Ladder_middle T F⟩
abbrev s__law_mixed : Stmt := topS 34
abbrev n__law_mixed : List Str := ["_law_cell", "_law_k", "_law_number"]
theorem sc__law_mixed : FnScope n__law_mixed (["_law_cell", "_law_k"] : List Str) (defScope s__law_mixed) := ⟨rfl, rfl, rfl, by decide +kernel, rfl, by decide +kernel, by decide +kernel⟩
theorem b__law_mixed (T : Tab K mg) {lk : Addr → Prop} {cdv : Value} {A : Around} {outer : List PySem.Env} {s : Shared} {H : Hp} {E : XK} {Ad : Addr → Prop} {H0 : Hp} {io : Addr → Prop} {f : Addr} (hio : ∀ a, ¬ io a) (hr : Room 0 (A.deeper (envOfC "_law_mixed" (defScope s__law_mixed) s.heap.objs.size f cdv))) :
    DSs (cxOf (L2.CX P w) P w K mg base n__law_mixed "_law_mixed" (defScope s__law_mixed) f cdv A outer s H E) (mkC (cmOf K mg lk) (kdOf [.z, .z, .z]) Ad H0 io E true) (defBody s__law_mixed) g__law_mixed :=
  have nd := (sc__law_mixed).nd
  (dss_cons
  (setz 2 nd (de_imm (q := .z) (de_weak_b (de_op2 (q := .b) opd_mod .b (de_op2 (q := .b) opd_add .b (de_op2 (q := .b) opd_mod .b (vz 0) (de_int (q := .b))) (de_op2 (q := .b) opd_mul .b (de_int (q := .b)) (de_op2 (q := .b) opd_add .b (vz 1) (de_int (q := .b))))) (de_int (q := .b))))))
  (dss_cons
  (setz 2 nd (de_imm (q := .z) (de_weak_b (de_op2 (q := .b) opd_mod .b (de_op2 (q := .b) opd_add .b (de_op2 (q := .b) opd_add .b (de_op2 (q := .b) opd_mul .b (vz 2) (vz 2)) (de_op2 (q := .b) opd_mul .b (de_int (q := .b)) (vz 1))) (de_int (q := .b))) (de_int (q := .b))))))
  (dss_one (rets (de_imm (q := (.n [])) (de_weak_b (de_op2 (q := .b) opd_mod .b (de_op2 (q := .b) opd_mul .b (vz 2) (vz 2)) (de_int (q := .b))))) (rtn hio)))))
theorem fk__law_mixed (T : Tab K mg) {lk : Addr → Prop} {f : Addr} {fd : FuncData} {dvs : List V} {kws : List (Str × V)} (F : FunD K "_law_mixed" "_law_mixed" (defArgs s__law_mixed) (defBody s__law_mixed) (defScope s__law_mixed) dvs kws f fd) : FnOk P w K mg base (L2.CX P w) 1 f fd (["_law_cell", "_law_k"] : List Str) (spD (cmOf K mg lk) 2 true (callD 2 3 g__law_mixed)) :=
  fn_ok (kd := (kdOf [.z, .z, .z])) F sc__law_mixed (by decide) (by decide) fun cdv A outer s H E Ad H0 io hio hr => b__law_mixed T hio hr
theorem fd__law_mixed (T : Tab K mg) {lk : Addr → Prop} : FD P w K mg base (cmOf K mg lk) "_law_mixed" 1 (["_law_cell", "_law_k"] : List Str) true 2 3 g__law_mixed := by
  obtain ⟨f, fd, F, hm⟩ := T._law_mixed
  exact ⟨f, fd, hm, F.kp, (F.bindsN fun _ _ _ _ _ _ us hl => match us, hl with | [_, _], _ => rfl), rfl, fk__law_mixed T F⟩
abbrev s__law_road : Stmt := topS 35
abbrev n__law_road : List Str := ["_law_cell", "_law_many", "_law_mixed_here", "_law_one", "_law_other", "_law_way", "_law_length"]
theorem sc__law_road : FnScope n__law_road (["_law_cell", "_law_many"] : List Str) (defScope s__law_road) := ⟨rfl, rfl, rfl, by decide +kernel, rfl, by decide +kernel, by decide +kernel⟩
theorem b__law_road (T : Tab K mg) {lk : Addr → Prop} {cdv : Value} {A : Around} {outer : List PySem.Env} {s : Shared} {H : Hp} {E : XK} {Ad : Addr → Prop} {H0 : Hp} {io : Addr → Prop} {f : Addr} (hio : ∀ a, ¬ io a) (hr : Room 1 (A.deeper (envOfC "_law_road" (defScope s__law_road) s.heap.objs.size f cdv))) :
    DSs (cxOf (L2.CX P w) P w K mg base n__law_road "_law_road" (defScope s__law_road) f cdv A outer s H E) (mkC (cmOf K mg lk) (kdOf [.z, .z, .z, .z, .z, .z, .z]) Ad H0 io E true) (defBody s__law_road) g__law_road :=
  have nd := (sc__law_road).nd
  (dss_cons
  (setz 2 nd (de_zn (cFD (fd__law_mixed T) hr (by decide) (takes_of rfl rfl rfl rfl) .fr rfl (ac .b (vz 0) (ac .b (de_int (q := .b)) (da_nil (q := .b)))))))
  (dss_cons
  (setz 3 nd (de_imm (q := .z) (de_weak_b (de_op2 (q := .b) opd_mod .b (vz 2) (vz 1)))))
  (dss_cons
  (setz 4 nd (de_imm (q := .z) (de_weak_b (de_op2 (q := .b) opd_mod .b (de_op2 (q := .b) opd_add .b (de_op2 (q := .b) opd_add .b (vz 3) (de_int (q := .b))) (de_op2 (q := .b) opd_mod .b (de_op2 (q := .b) opd_div .b (vz 2) (de_int (q := .b))) (de_op2 (q := .b) opd_sub .b (vz 1) (de_int (q := .b))))) (vz 1)))))
  (dss_cons
  (setz 5 nd (de_imm (q := .z) (de_weak_b (de_op2 (q := .b) opd_mod .b (de_op2 (q := .b) opd_div .b (vz 2) (de_int (q := .b))) (de_int (q := .b))))))
  (dss_cons
  (setz 6 nd (de_imm (q := .z) (de_weak_b (de_op2 (q := .b) opd_mod .b (de_op2 (q := .b) opd_div .b (vz 2) (de_int (q := .b))) (de_int (q := .b))))))
  (dss_cons
  (ds_if (tcmp (cmd_eq hr.units) (vz 5) (de_int (q := .b))) (dss_one (setz 6 nd (de_non (q := .z)))) dss_nil)
  (dss_cons
  (ds_if (tcmp (cmd_eq hr.units) (vz 5) (de_int (q := .b))) (dss_one (setz 6 nd (de_imm (q := .z) (de_weak_b (de_op2 (q := .b) opd_mod .b (vz 0) (de_op2 (q := .b) opd_pow .b (de_int (q := .b)) (de_int (q := .b)))))))) dss_nil)
  (dss_cons
  (ds_if (tcmp (cmd_eq hr.units) (vz 5) (de_int (q := .b))) (dss_one (setz 6 nd (de_imm (q := .z) (de_weak_b (de_op2 (q := .b) opd_mod .b (de_op2 (q := .b) opd_div .b (vz 2) (de_int (q := .b))) (de_int (q := .b))))))) dss_nil)
  (dss_one (rets (de_tup (ac .n0 (de_imm (q := (.n [])) (de_weak_b (vz 3))) (ac .n0 (de_imm (q := (.n [])) (de_weak_b (vz 4))) (ac .n0 (de_imm (q := (.n [])) (de_weak_b (vz 6))) (ac .n0 (de_imm (q := (.n [])) (de_weak_b (de_op2 (q := .b) opd_mod .b (cFD (fd__law_mixed T) hr (by decide) (takes_of rfl rfl rfl rfl) .fr rfl (ac .b (vz 0) (ac .b (de_int (q := .b)) (da_nil (q := .b))))) (ix (q := .b) hr.units .b (de_lst (ac .b (de_int (q := .b)) (ac .b (de_op2 (q := .b) opd_pow .b (de_int (q := .b)) (de_int (q := .b))) (da_nil (q := .b))))) (de_op2 (q := .b) opd_mod .b (vz 0) (de_int (q := .b))))))) (da_nil (q := (.n [])))))))) (rtn hio)))))))))))
theorem fk__law_road (T : Tab K mg) {lk : Addr → Prop} {f : Addr} {fd : FuncData} {dvs : List V} {kws : List (Str × V)} (F : FunD K "_law_road" "_law_road" (defArgs s__law_road) (defBody s__law_road) (defScope s__law_road) dvs kws f fd) : FnOk P w K mg base (L2.CX P w) 2 f fd (["_law_cell", "_law_many"] : List Str) (spD (cmOf K mg lk) 2 true (callD 2 7 g__law_road)) :=
  fn_ok (kd := (kdOf [.z, .z, .z, .z, .z, .z, .z])) F sc__law_road (by decide) (by decide) fun cdv A outer s H E Ad H0 io hio hr => b__law_road T hio hr
theorem fd__law_road (T : Tab K mg) {lk : Addr → Prop} : FD P w K mg base (cmOf K mg lk) "_law_road" 2 (["_law_cell", "_law_many"] : List Str) true 2 7 g__law_road := by
  obtain ⟨f, fd, F, hm⟩ := T._law_road
  exact ⟨f, fd, hm, F.kp, (F.bindsN fun _ _ _ _ _ _ us hl => match us, hl with | [_, _], _ => rfl), rfl, fk__law_road T F⟩
abbrev s__law_map : Stmt := topS 36
abbrev n__law_map : List Str := ["_law_cells", "_law_most", "_law_head", "_law_many", "_law_roads", "_law_cell"]
theorem sc__law_map : FnScope n__law_map (["_law_cells", "_law_most"] : List Str) (defScope s__law_map) := ⟨rfl, rfl, rfl, by decide +kernel, rfl, by decide +kernel, by decide +kernel⟩
theorem b__law_map (T : Tab K mg) {lk : Addr → Prop} {cdv : Value} {A : Around} {outer : List PySem.Env} {s : Shared} {H : Hp} {E : XK} {Ad : Addr → Prop} {H0 : Hp} {io : Addr → Prop} {f : Addr} (hio : ∀ a, ¬ io a) (hr : Room 2 (A.deeper (envOfC "_law_map" (defScope s__law_map) s.heap.objs.size f cdv))) :
    DSs (cxOf (L2.CX P w) P w K mg base n__law_map "_law_map" (defScope s__law_map) f cdv A outer s H E) (mkC (cmOf K mg lk) (kdOf [.z, .z, .z, .z, .m, .z]) Ad H0 io E true) (defBody s__law_map) g__law_map :=
  have nd := (sc__law_map).nd
  (dss_cons
  (setz 2 nd (de_imm (q := .z) (de_weak_b (cB (q := .b) (cd_sum rfl rfl) rfl T.bi.sum bb_sum (ac .b (esl (vz 0) do_none (do_some (de_int (q := .b)))) (da_nil (q := .b)))))))
  (dss_cons
  (setz 3 nd (de_imm (q := .z) (de_weak_b (de_op2 (q := .b) opd_add .b (de_int (q := .b)) (de_op2 (q := .b) opd_mod .b (vz 2) (vz 1))))))
  (dss_cons
  (setm 4 nd (de_lst (da_nil (q := (.n [])))))
  (dss_cons
  (ds_if (tcmp (cmd_gt hr.units) (vz 3) (de_int (q := .b))) (dss_one (setmLc 4 [("_law_cell", 5)] rfl nd .n (iseq (esl (vz 0) (do_some (de_int (q := .b))) (do_some (de_int (q := .b))))) (fun _ _ _ _ _ => (gname 5 nd)) (fun _ _ _ _ _ => dts_nil) (fun _ _ _ _ _ => (cFD (fd__law_road T) hr (by decide) takes_nox .fr rfl (ac .b (vz 5) (ac .b (vz 3) (da_nil (q := .b)))))) (ok := blkOk_by (N := n__law_map) (sc := defScope s__law_map) (by decide +kernel)))) dss_nil)
  (dss_one (rets (de_tup (ac (.n (S := []) (T := [4]) (by decide)) (de_imm (q := (.n [])) (de_weak_b (vz 3))) (ac (.n (S := [4]) (T := []) (by decide)) (vm 4) (da_nil (q := (.n [])))))) (rtn hio)))))))
theorem fk__law_map (T : Tab K mg) {lk : Addr → Prop} {f : Addr} {fd : FuncData} {dvs : List V} {kws : List (Str × V)} (F : FunD K "_law_map" "_law_map" (defArgs s__law_map) (defBody s__law_map) (defScope s__law_map) dvs kws f fd) : FnOk P w K mg base (L2.CX P w) 3 f fd (["_law_cells", "_law_most"] : List Str) (spD (cmOf K mg lk) 2 true (callD 2 6 g__law_map)) :=
  fn_ok (kd := (kdOf [.z, .z, .z, .z, .m, .z])) F sc__law_map (by decide) (by decide) fun cdv A outer s H E Ad H0 io hio hr => b__law_map T hio hr
theorem fd__law_map (T : Tab K mg) {lk : Addr → Prop} : FD P w K mg base (cmOf K mg lk) "_law_map" 3 (["_law_cells", "_law_most"] : List Str) true 2 6 g__law_map := by
  obtain ⟨f, fd, F, hm⟩ := T._law_map
  exact ⟨f, fd, hm, F.kp, (F.bindsN fun _ _ _ _ _ _ us hl => match us, hl with | [_, _], _ => rfl), rfl, fk__law_map T F⟩
abbrev s__law_order : Stmt := topS 37
abbrev n__law_order : List Str := ["_law_many", "_law_cell", "_law_low_first", "_law_k"]
theorem sc__law_order : FnScope n__law_order (["_law_many", "_law_cell"] : List Str) (defScope s__law_order) := ⟨rfl, rfl, rfl, by decide +kernel, rfl, by decide +kernel, by decide +kernel⟩
theorem b__law_order (T : Tab K mg) {lk : Addr → Prop} {cdv : Value} {A : Around} {outer : List PySem.Env} {s : Shared} {H : Hp} {E : XK} {Ad : Addr → Prop} {H0 : Hp} {io : Addr → Prop} {f : Addr} (hio : ∀ a, ¬ io a) (hr : Room 1 (A.deeper (envOfC "_law_order" (defScope s__law_order) s.heap.objs.size f cdv))) :
    DSs (cxOf (L2.CX P w) P w K mg base n__law_order "_law_order" (defScope s__law_order) f cdv A outer s H E) (mkC (cmOf K mg lk) (kdOf [.z, .z, .m, .z]) Ad H0 io E true) (defBody s__law_order) g__law_order :=
  have nd := (sc__law_order).nd
  (dss_cons
  (setm 2 nd (de_lst (da_nil (q := (.n [])))))
  (dss_cons
  (fors (passes_of rfl) rfl (irange rfl T.bi.range (vz 0)) (gname 3 nd)
  (dss_one (ds_op rfl ol_insert PySem.F.plainAttrs_list PySem.F.slot_list_insert PySem.F.type_list_insert (pnm 2) (ac .n0 (de_imm (q := (.n [])) (de_weak_b (de_op2 (q := .b) opd_mod .b (cFD (fd__law_mixed T) hr (by decide) (takes_of rfl rfl rfl rfl) .fr rfl (ac .b (vz 1) (ac .b (vz 3) (da_nil (q := .b))))) (de_op2 (q := .b) opd_add .b (vz 3) (de_int (q := .b)))))) (ac .n0 (de_imm (q := (.n [])) (de_weak_b (vz 3))) (da_nil (q := (.n []))))))))
  (dss_one (rets (vm 2) (rtn hio)))))
theorem fk__law_order (T : Tab K mg) {lk : Addr → Prop} {f : Addr} {fd : FuncData} {dvs : List V} {kws : List (Str × V)} (F : FunD K "_law_order" "_law_order" (defArgs s__law_order) (defBody s__law_order) (defScope s__law_order) dvs kws f fd) : FnOk P w K mg base (L2.CX P w) 2 f fd (["_law_many", "_law_cell"] : List Str) (spD (cmOf K mg lk) 2 true (callD 2 4 g__law_order)) :=
  fn_ok (kd := (kdOf [.z, .z, .m, .z])) F sc__law_order (by decide) (by decide) fun cdv A outer s H E Ad H0 io hio hr => b__law_order T hio hr
theorem fd__law_order (T : Tab K mg) {lk : Addr → Prop} : FD P w K mg base (cmOf K mg lk) "_law_order" 2 (["_law_many", "_law_cell"] : List Str) true 2 4 g__law_order := by
  obtain ⟨f, fd, F, hm⟩ := T._law_order
  exact ⟨f, fd, hm, F.kp, (F.bindsN fun _ _ _ _ _ _ us hl => match us, hl with | [_, _], _ => rfl), rfl, fk__law_order T F⟩
theorem mt_tb_Ladder_order_0 (T : Tab K mg) {lk : Addr → Prop} : MeTb P w K mg base (cmOf K mg lk) "order" 1 true 1 [] tb_Ladder_order := (.cons (me_Ladder_order_0 T) (by decide) .nil)
theorem mt_tb_Ladder_arcs_0 (T : Tab K mg) {lk : Addr → Prop} : MeTb P w K mg base (cmOf K mg lk) "arcs" 1 true 1 [] tb_Ladder_arcs := (.cons (me_Ladder_arcs_0 T) (by decide) .nil)
theorem mt_tb_Ladder_middle_0 (T : Tab K mg) {lk : Addr → Prop} : MeTb P w K mg base (cmOf K mg lk) "middle" 3 true 3 [] tb_Ladder_middle := (.cons (me_Ladder_middle_0 T) (by decide) .nil)
theorem mt_tb_Ladder_cost_0 (T : Tab K mg) {lk : Addr → Prop} : MeTb P w K mg base (cmOf K mg lk) "cost" 3 true 3 [] tb_Ladder_cost := (.cons (me_Ladder_cost_0 T) (by decide) .nil)
theorem mt_tb_Ladder_told_map_0 (T : Tab K mg) {lk : Addr → Prop} : MeTb P w K mg base (cmOf K mg lk) "told_map" 1 true 1 [] tb_Ladder_told_map := (.cons (me_Ladder_told_map_0 T) (by decide) .nil)
abbrev s__law_told : Stmt := topS 38
abbrev n__law_told : List Str := ["_law_ladder", "_law_land", "_law_low_first", "_law_early", "_law_costs", "_law_inner", "_law_found", "_law_u", "_law_w", "_law_told_here"]
theorem sc__law_told : FnScope n__law_told (["_law_ladder", "_law_land", "_law_low_first", "_law_early"] : List Str) (defScope s__law_told) := ⟨rfl, rfl, rfl, by decide +kernel, rfl, by decide +kernel, by decide +kernel⟩
theorem b__law_told (T : Tab K mg) {lk : Addr → Prop} {cdv : Value} {A : Around} {outer : List PySem.Env} {s : Shared} {H : Hp} {E : XK} {Ad : Addr → Prop} {H0 : Hp} {io : Addr → Prop} {f : Addr} (hio : ∀ a, ¬ io a) (hr : Room 4 (A.deeper (envOfC "_law_told" (defScope s__law_told) s.heap.objs.size f cdv))) :
    DSs (cxOf (L2.CX P w) P w K mg base n__law_told "_law_told" (defScope s__law_told) f cdv A outer s H E) (mkC (cmOf K mg lk) (kdOf [.z, .z, .z, .z, .z, .z, .m, .z, .z, .m]) Ad H0 io E true) (defBody s__law_told) g__law_told :=
  have nd := (sc__law_told).nd
  (dss_cons
  (ds_if (dt_w (dw_and (tval (vz 3)) (dw_and1 (tcmp (cmd_ne hr.units) (meth0 (mt_tb_Ladder_order_0 T) hr (by decide) (takes_of rfl rfl rfl rfl) .fr .b (vz 0)) (vz 2))))) (dss_one (rets (de_bl (q := (.n []))) (rtn hio))) dss_nil)
  (dss_cons
  (setz 4 nd (de_zn (cFD (fd_arc_costs T) hr (by decide) (takes_of rfl rfl rfl rfl) .fr rfl (ac .b (de_tup (ac .b (ix (q := .b) hr.units .b (vz 1) (de_int (q := .b))) (ac .b (cT (q := .b) (cd_list rfl) rfl T.bi.list bb_list (ac .b (ix (q := .b) hr.units .b (vz 1) (de_int (q := .b))) (da_nil (q := .b)))) (da_nil (q := .b))))) (ac .b (cT (q := .b) (cd_list rfl) rfl T.bi.list bb_list (ac .b (vz 2) (da_nil (q := .b)))) (da_nil (q := .b)))))))
  (dss_cons
  (setz 5 nd (de_zn (cFD (fd_middles T) hr (by decide) (takes_of rfl rfl rfl rfl) .fr rfl (ac .b (de_tup (ac .b (ix (q := .b) hr.units .b (vz 1) (de_int (q := .b))) (ac .b (cT (q := .b) (cd_list rfl) rfl T.bi.list bb_list (ac .b (ix (q := .b) hr.units .b (vz 1) (de_int (q := .b))) (da_nil (q := .b)))) (da_nil (q := .b))))) (ac .b (cT (q := .b) (cd_list rfl) rfl T.bi.list bb_list (ac .b (vz 2) (da_nil (q := .b)))) (da_nil (q := .b)))))))
  (dss_cons
  (setm 6 nd (meth0 (mt_tb_Ladder_arcs_0 T) hr (by decide) (takes_of rfl rfl rfl rfl) .fr .b (vz 0)))
  (dss_cons
  (ds_if (dt_w (dw_or (dt_not (tval (isi (q := .b) ty_lst rfl T.bi.isinstance rfl T.bi.list bb_list (vm 6)))) (dw_or1 (tcmp (cmd_ne hr.units) (vm 6) (cBN (cd_sorted rfl rfl hr.units) rfl T.bi.sorted bb_sorted (ac .b (cTN (cd_listd rfl rfl) rfl T.bi.list bb_list (ac .b (vz 4) (da_nil (q := .b)))) (da_nil (q := .b)))))))) (dss_one (rets (de_bl (q := (.n []))) (rtn hio))) dss_nil)
  (dss_cons
  (forM 6 (passes_of rfl) rfl (fun v => (gtup 2 rfl (gcons (gname 7 nd) (gcons (gname 8 nd) dgs_nil))))
  (fun v => (dss_one (ds_if (dt_w (dw_or (tcmp (cmd_ne hr.units) (meth (mt_tb_Ladder_cost_0 T) hr (by decide) (takes_of rfl rfl rfl rfl) .fr .b (vz 0) (ac .b (vz 7) (ac .b (vz 8) (da_nil (q := .b))))) (ix (q := .b) hr.units .b (vz 4) (de_tup (ac .b (vz 7) (ac .b (vz 8) (da_nil (q := .b))))))) (dw_or1 (tcmp (cmd_ne hr.units) (meth (mt_tb_Ladder_middle_0 T) hr (by decide) (takes_of rfl rfl rfl rfl) .fr .b (vz 0) (ac .b (vz 7) (ac .b (vz 8) (da_nil (q := .b))))) (ix (q := .b) hr.units .b (vz 5) (de_tup (ac .b (vz 7) (ac .b (vz 8) (da_nil (q := .b)))))))))) (dss_one (rets (de_bl (q := (.n []))) rtn0)) dss_nil))))
  (dss_cons
  (ds_op0 rfl ol_clear PySem.F.plainAttrs_list PySem.F.slot_list_clear PySem.F.type_list_clear (pnm 6))
  (dss_cons
  (setm 9 nd (meth0 (mt_tb_Ladder_told_map_0 T) hr (by decide) (takes_of rfl rfl rfl rfl) .fr .b (vz 0)))
  (dss_cons
  (ds_if (dt_w (dw_or (dt_not (tval (isi (q := .b) ty_tup rfl T.bi.isinstance rfl T.bi.tuple bb_tuple (vm 9)))) (dw_or (tcmp (cmd_ne hr.units) (vm 9) (vz 1)) (dw_or1 (dt_not (tval (isi (q := .b) ty_lst rfl T.bi.isinstance rfl T.bi.list bb_list (ix (q := .b) hr.units .b (vm 9) (de_int (q := .b)))))))))) (dss_one (rets (de_bl (q := (.n []))) (rtn hio))) dss_nil)
  (dss_cons
  (ds_op rfl ol_append PySem.F.plainAttrs_list PySem.F.slot_list_append PySem.F.type_list_append (pix (pnm 9) (de_int (q := .b))) (ac .n0 (de_non (q := (.n []))) (da_nil (q := (.n [])))))
  (dss_cons
  (setm 6 nd (meth0 (mt_tb_Ladder_order_0 T) hr (by decide) (takes_of rfl rfl rfl rfl) .fr .b (vz 0)))
  (dss_cons
  (ds_if (dt_w (dw_or (dt_not (tval (isi (q := .b) ty_lst rfl T.bi.isinstance rfl T.bi.list bb_list (vm 6)))) (dw_or1 (tcmp (cmd_ne hr.units) (vm 6) (vz 2))))) (dss_one (rets (de_bl (q := (.n []))) (rtn hio))) dss_nil)
  (dss_cons
  (ds_op0 rfl ol_reverse PySem.F.plainAttrs_list PySem.F.slot_list_reverse PySem.F.type_list_reverse (pnm 6))
  (dss_one (rets (de_bl (q := (.n []))) (rtn hio))))))))))))))))
theorem fk__law_told (T : Tab K mg) {lk : Addr → Prop} {f : Addr} {fd : FuncData} {dvs : List V} {kws : List (Str × V)} (F : FunD K "_law_told" "_law_told" (defArgs s__law_told) (defBody s__law_told) (defScope s__law_told) dvs kws f fd) : FnOk P w K mg base (L2.CX P w) 5 f fd (["_law_ladder", "_law_land", "_law_low_first", "_law_early"] : List Str) (spD (cmOf K mg lk) 4 true (callD 4 10 g__law_told)) :=
  fn_ok (kd := (kdOf [.z, .z, .z, .z, .z, .z, .m, .z, .z, .m])) F sc__law_told (by decide) (by decide) fun cdv A outer s H E Ad H0 io hio hr => b__law_told T hio hr
theorem fd__law_told (T : Tab K mg) {lk : Addr → Prop} : FD P w K mg base (cmOf K mg lk) "_law_told" 5 (["_law_ladder", "_law_land", "_law_low_first", "_law_early"] : List Str) true 4 10 g__law_told := by
  obtain ⟨f, fd, F, hm⟩ := T._law_told
  exact ⟨f, fd, hm, F.kp, (F.bindsN fun _ _ _ _ _ _ us hl => match us, hl with | [_, _, _, _], _ => rfl), rfl, fk__law_told T F⟩
abbrev s_law : Stmt := topS 39
abbrev n_law : List Str := ["_law_script", "_law_cells", "_law_cell", "_law_land", "_law_low_first", "_law_best", "_law_handed", "_law_line", "_law_ladders", "_law_k"]
theorem sc_law : FnScope n_law (["_law_script"] : List Str) (defScope s_law) := ⟨rfl, rfl, rfl, by decide +kernel, rfl, by decide +kernel, by decide +kernel⟩
theorem b_law (T : Tab K mg) {lk : Addr → Prop} {cdv : Value} {A : Around} {outer : List PySem.Env} {s : Shared} {H : Hp} {E : XK} {Ad : Addr → Prop} {H0 : Hp} {io : Addr → Prop} {f : Addr} (hio : ∀ a, ¬ io a) (hr : Room 7 (A.deeper (envOfC "law" (defScope s_law) s.heap.objs.size f cdv))) :
    DSs (cxOf (L2.CX P w) P w K mg base n_law "law" (defScope s_law) f cdv A outer s H E) (mkC (cmOf K mg lk) (kdOf [.z, .z, .z, .z, .z, .z, .m, .m, .z, .z]) Ad H0 io E true) (defBody s_law) g_law :=
  have nd := (sc_law).nd
  (dss_cons
  (setzLc 1 [("_law_cell", 2)] rfl nd .z (iseq (esl (vz 0) do_none (do_some (de_int (q := .b))))) (fun _ _ _ _ _ => (gname 2 nd)) (fun _ _ _ _ _ => dts_nil) (fun _ _ _ _ _ => (de_imm (q := .z) (de_weak_b (de_op2 (q := .b) opd_mod .b (vz 2) (de_op2 (q := .b) opd_pow .b (de_int (q := .b)) (de_int (q := .b))))))) (ok := blkOk_by (N := n_law) (sc := defScope s_law) (by decide +kernel)))
  (dss_cons
  (setz 3 nd (de_zn (cFD (fd__law_map T) hr (by decide) (takes_of rfl rfl rfl rfl) .fr rfl (ac .b (vz 1) (ac .b (de_int (q := .b)) (da_nil (q := .b)))))))
  (dss_cons
  (setz 4 nd (de_zn (cFD (fd__law_order T) hr (by decide) (takes_of rfl rfl rfl rfl) .fr rfl (ac .b (ix (q := .b) hr.units .b (vz 3) (de_int (q := .b))) (ac .b (cB (q := .b) (cd_sum rfl rfl) rfl T.bi.sum bb_sum (ac .b (vz 1) (da_nil (q := .b)))) (da_nil (q := .b)))))))
  (dss_cons
  (setz 5 nd (de_zn (cFD (fd_ranked T) hr (by decide) (takes_of rfl rfl rfl rfl) .fr rfl (ac .b (de_tup (ac .b (ix (q := .b) hr.units .b (vz 3) (de_int (q := .b))) (ac .b (cT (q := .b) (cd_list rfl) rfl T.bi.list bb_list (ac .b (ix (q := .b) hr.units .b (vz 3) (de_int (q := .b))) (da_nil (q := .b)))) (da_nil (q := .b))))) (da_nil (q := .b))))))
  (dss_cons
  (setm 6 nd (de_tup (ac .n0 (de_imm (q := (.n [])) (de_weak_b (ix (q := .b) hr.units .b (vz 3) (de_int (q := .b))))) (ac .n0 (cListN rfl T.bi.list (ac .b (ix (q := .b) hr.units .b (vz 3) (de_int (q := .b))) (da_nil (q := .b)))) (da_nil (q := (.n [])))))))
  (dss_cons
  (setm 7 nd (cListN rfl T.bi.list (ac .b (vz 4) (da_nil (q := .b)))))
  (dss_cons
  (setz 8 nd (de_lst (ac .z (de_zn (make (mk_Ladder_0 T) hr (by decide) (takes_of rfl rfl rfl rfl) (ac .b (vm 6) (ac .b (vm 7) (da_nil (q := .b)))))) (ac .z (de_zn (make (mk_Ladder_1 T) hr (by decide) (takes_of rfl rfl rfl rfl) (ac .b (vm 6) (da_nil (q := .b))))) (ac .z (de_zn (makeK (mkk_Ladder T) hr (by decide) (takes_of rfl rfl rfl rfl) (ac .b (vm 6) (da_nil (q := .b))) (vm 7))) (da_nil (q := .z)))))))
  (dss_cons
  (ds_if (dt_w (dw_or (tcmp (cmd_ne hr.units) (vm 6) (vz 3)) (dw_or1 (tcmp (cmd_ne hr.units) (vm 7) (vz 4))))) (dss_one (rets (de_bl (q := (.n []))) (rtn hio))) dss_nil)
  (dss_cons
  (ds_op0 rfl ol_clear PySem.F.plainAttrs_list PySem.F.slot_list_clear PySem.F.type_list_clear (pix (pnm 6) (de_int (q := .b))))
  (dss_cons
  (ds_op0 rfl ol_reverse PySem.F.plainAttrs_list PySem.F.slot_list_reverse PySem.F.type_list_reverse (pnm 7))
  (dss_cons
  (fors (passes_of rfl) rfl (irange rfl T.bi.range (de_int (q := .b))) (gname 9 nd)
  (dss_one (ds_if (dt_not (tval (cFD (fd__law_told T) hr (by decide) (takes_of rfl rfl rfl rfl) .fr rfl (ac .b (ix (q := .b) hr.units .b (vz 8) (de_op2 (q := .b) opd_mod .b (vz 9) (de_int (q := .b)))) (ac .b (vz 3) (ac .b (ix (q := .b) hr.units .b (de_lst (ac .b (vz 4) (ac .b (vz 5) (ac .b (vz 4) (da_nil (q := .b)))))) (de_op2 (q := .b) opd_mod .b (vz 9) (de_int (q := .b)))) (ac .b (ecmp (q := .b) (cmd_eq hr.units) (de_op2 (q := .b) opd_mod .b (de_op2 (q := .b) opd_add .b (de_op2 (q := .b) opd_add .b (cB (q := .b) (cd_sum rfl rfl) rfl T.bi.sum bb_sum (ac .b (vz 1) (da_nil (q := .b)))) (de_op2 (q := .b) opd_div .b (vz 9) (de_int (q := .b)))) (vz 9)) (de_int (q := .b))) (de_int (q := .b))) (da_nil (q := .b))))))))) (dss_one (rets (de_bl (q := (.n []))) (rtn hio))) dss_nil)))
  (dss_one (rets (de_bl (q := (.n []))) (rtn hio))))))))))))))
theorem fk_law (T : Tab K mg) {lk : Addr → Prop} {f : Addr} {fd : FuncData} {dvs : List V} {kws : List (Str × V)} (F : FunD K "law" "law" (defArgs s_law) (defBody s_law) (defScope s_law) dvs kws f fd) : FnOk P w K mg base (L2.CX P w) 8 f fd (["_law_script"] : List Str) (spD (cmOf K mg lk) 1 true (callD 1 10 g_law)) :=
  fn_ok (kd := (kdOf [.z, .z, .z, .z, .z, .z, .m, .m, .z, .z])) F sc_law (by decide) (by decide) fun cdv A outer s H E Ad H0 io hio hr => b_law T hio hr
theorem fd_law (T : Tab K mg) {lk : Addr → Prop} : FD P w K mg base (cmOf K mg lk) "law" 8 (["_law_script"] : List Str) true 1 10 g_law := by
  obtain ⟨f, fd, F, hm⟩ := T.law
  exact ⟨f, fd, hm, F.kp, (F.bindsN fun _ _ _ _ _ _ us hl => match us, hl with | [_], _ => rfl), rfl, fk_law T F⟩
end
end Nl
set_option Elab.async false
set_option linter.all false
set_option maxRecDepth 100000
set_option maxHeartbeats 4000000
namespace Nl
open PySem PySem.Spec PyProof.Rows L2 Pd
def dd (x : Str) (i : Nat) : He.DefD := ⟨(x, none), x, x, defArgs (topS i), defBody (topS i), defScope (topS i), [], []⟩
def dm (c m qual : Str) (st : Stmt) (dv : List He.Dv) : He.DefD := ⟨(c, some m), m, qual, defArgs st, defBody st, defScope st, dv, []⟩
def fnl : List He.DefD := [dd "is_number" 9, dd "is_length" 10, dd "is_road" 11, dd "is_map" 12, dd "checked" 13, dd "added" 14, dd "least" 15, dd "road_cost" 16, dd "road_costs" 18, dd "over" 19, dd "arc_costs" 20, dd "middle_of" 21, dd "middles" 22, dd "is_place" 24, dd "checked_order" 25, dd "bows_of" 26, dd "lacking" 27, dd "ranked" 28, dd "costs_from" 30, dd "_law_mixed" 34, dd "_law_road" 35, dd "_law_map" 36, dd "_law_order" 37, dd "_law_told" 38, dd "law" 39, dm "Ladder" "__init__" "Ladder.__init__" (inClass (topS 32) 0) [.non], dm "Ladder" "arc" "Ladder.arc" (inClass (topS 32) 4) [], dm "Ladder" "arcs" "Ladder.arcs" (inClass (topS 32) 3) [], dm "Ladder" "cost" "Ladder.cost" (inClass (topS 32) 5) [], dm "Ladder" "found_best" "Ladder.found_best" (inClass (topS 32) 9) [], dm "Ladder" "middle" "Ladder.middle" (inClass (topS 32) 6) [], dm "Ladder" "order" "Ladder.order" (inClass (topS 32) 2) [], dm "Ladder" "told_map" "Ladder.told_map" (inClass (topS 32) 1) []]
def fal : List He.Fa := [.glo "is_number", .glo "is_length", .glo "is_road", .glo "is_map", .glo "checked", .glo "added", .glo "least", .glo "road_cost", .glo "road_costs", .glo "over", .glo "arc_costs", .glo "middle_of", .glo "middles", .glo "is_place", .glo "checked_order", .glo "bows_of", .glo "lacking", .glo "ranked", .glo "costs_from", .glo "_law_mixed", .glo "_law_road", .glo "_law_map", .glo "_law_order", .glo "_law_told", .glo "law", .free "len", .free "list", .free "sum", .free "all", .free "any", .free "max", .free "min", .free "range", .free "enumerate", .free "zip", .free "reversed", .free "isinstance", .free "int", .free "bool", .free "tuple", .free "str", .free "dict", .free "set", .free "sorted", .free "ValueError", .int "MOST_PLACES" 16, .int "MOST_ROADS" 60, .glo "NoArc", .exc "NoArc", .glo "NoMap", .exc "NoMap", .glo "NoOrder", .exc "NoOrder", .glo "Ladder", .cls "Ladder", .noat "Ladder" "best", .noat "Ladder" "inner", .noat "Ladder" "laid", .noat "Ladder" "land", .noat "Ladder" "line", .mkr "Ladder", .meth "Ladder" "arc", .meth "Ladder" "arcs", .meth "Ladder" "cost", .meth "Ladder" "found_best", .meth "Ladder" "middle", .meth "Ladder" "order", .meth "Ladder" "told_map"]
def fbl : List He.Fb := []
abbrev RR : PySem.W.OpenRow := PySem.W.OpenLaw.row PySem.Challenge.rw_nodeladder_k31_ladder_told
abbrev hk : PySem.W.Hook := He.hookY 6 fal fnl fbl
def ob (s : PySem.W.SharedT) : He.AlY := He.obsYG 6 fal fnl fbl (HandSHeadRun.getT s)
theorem ob_eq (s : PySem.W.SharedT) : ob s = hk.obs s.abs := He.obsYG_eq (HandSHeadRun.getT_eq s)
def loose : List Str := ["_wall", "LadderError", "NoMap", "NoOrder", "NoArc", "MOST_PLACES", "MOST_ROADS", "is_number", "is_length", "is_road", "is_map", "checked", "added", "least", "road_cost", "road_costs", "over", "arc_costs", "middle_of", "middles", "is_place", "checked_order", "bows_of", "lacking", "ranked", "costs_from", "Ladder", "_law_mixed", "_law_road", "_law_map", "_law_order", "_law_told"]
theorem run (w : World) : HandSHeadRun.RunEq RR (PySem.W.view RR.prog [39]) hk ob 4000 loose w := by
  intro os
  kernel_rfl
theorem tab_of {K : PySem.W.Frag} {h : Heap} {mg : Str → Option Value} (X : K.In h) (G : h.Ns mainGlobals mg) (c : He.SaysY fal fnl fbl K) : Tab K mg where
  bi := ⟨He.free_ok X G (c.fact 25 (f := .free "len") rfl), He.free_ok X G (c.fact 26 (f := .free "list") rfl), He.free_ok X G (c.fact 27 (f := .free "sum") rfl), He.free_ok X G (c.fact 28 (f := .free "all") rfl), He.free_ok X G (c.fact 29 (f := .free "any") rfl), He.free_ok X G (c.fact 30 (f := .free "max") rfl), He.free_ok X G (c.fact 31 (f := .free "min") rfl), He.free_ok X G (c.fact 32 (f := .free "range") rfl), He.free_ok X G (c.fact 33 (f := .free "enumerate") rfl), He.free_ok X G (c.fact 34 (f := .free "zip") rfl), He.free_ok X G (c.fact 35 (f := .free "reversed") rfl), He.free_ok X G (c.fact 36 (f := .free "isinstance") rfl), He.free_ok X G (c.fact 37 (f := .free "int") rfl), He.free_ok X G (c.fact 38 (f := .free "bool") rfl), He.free_ok X G (c.fact 39 (f := .free "tuple") rfl), He.free_ok X G (c.fact 40 (f := .free "str") rfl), He.free_ok X G (c.fact 41 (f := .free "dict") rfl), He.free_ok X G (c.fact 42 (f := .free "set") rfl), He.free_ok X G (c.fact 43 (f := .free "sorted") rfl), He.free_ok X G (c.fact 44 (f := .free "ValueError") rfl)⟩
  is_number := let ⟨fd, F⟩ := c.def_ 0 (d := dd "is_number" 9) rfl; ⟨_, fd, F, He.glo_ok X G (c.fact 0 (f := .glo "is_number") rfl)⟩
  is_length := let ⟨fd, F⟩ := c.def_ 1 (d := dd "is_length" 10) rfl; ⟨_, fd, F, He.glo_ok X G (c.fact 1 (f := .glo "is_length") rfl)⟩
  is_road := let ⟨fd, F⟩ := c.def_ 2 (d := dd "is_road" 11) rfl; ⟨_, fd, F, He.glo_ok X G (c.fact 2 (f := .glo "is_road") rfl)⟩
  is_map := let ⟨fd, F⟩ := c.def_ 3 (d := dd "is_map" 12) rfl; ⟨_, fd, F, He.glo_ok X G (c.fact 3 (f := .glo "is_map") rfl)⟩
  checked := let ⟨fd, F⟩ := c.def_ 4 (d := dd "checked" 13) rfl; ⟨_, fd, F, He.glo_ok X G (c.fact 4 (f := .glo "checked") rfl)⟩
  added := let ⟨fd, F⟩ := c.def_ 5 (d := dd "added" 14) rfl; ⟨_, fd, F, He.glo_ok X G (c.fact 5 (f := .glo "added") rfl)⟩
  least := let ⟨fd, F⟩ := c.def_ 6 (d := dd "least" 15) rfl; ⟨_, fd, F, He.glo_ok X G (c.fact 6 (f := .glo "least") rfl)⟩
  road_cost := let ⟨fd, F⟩ := c.def_ 7 (d := dd "road_cost" 16) rfl; ⟨_, fd, F, He.glo_ok X G (c.fact 7 (f := .glo "road_cost") rfl)⟩
  road_costs := let ⟨fd, F⟩ := c.def_ 8 (d := dd "road_costs" 18) rfl; ⟨_, fd, F, He.glo_ok X G (c.fact 8 (f := .glo "road_costs") rfl)⟩
  over := let ⟨fd, F⟩ := c.def_ 9 (d := dd "over" 19) rfl; ⟨_, fd, F, He.glo_ok X G (c.fact 9 (f := .glo "over") rfl)⟩
  arc_costs := let ⟨fd, F⟩ := c.def_ 10 (d := dd "arc_costs" 20) rfl; ⟨_, fd, F, He.glo_ok X G (c.fact 10 (f := .glo "arc_costs") rfl)⟩
  middle_of := let ⟨fd, F⟩ := c.def_ 11 (d := dd "middle_of" 21) rfl; ⟨_, fd, F, He.glo_ok X G (c.fact 11 (f := .glo "middle_of") rfl)⟩
  middles := let ⟨fd, F⟩ := c.def_ 12 (d := dd "middles" 22) rfl; ⟨_, fd, F, He.glo_ok X G (c.fact 12 (f := .glo "middles") rfl)⟩
  is_place := let ⟨fd, F⟩ := c.def_ 13 (d := dd "is_place" 24) rfl; ⟨_, fd, F, He.glo_ok X G (c.fact 13 (f := .glo "is_place") rfl)⟩
  checked_order := let ⟨fd, F⟩ := c.def_ 14 (d := dd "checked_order" 25) rfl; ⟨_, fd, F, He.glo_ok X G (c.fact 14 (f := .glo "checked_order") rfl)⟩
  bows_of := let ⟨fd, F⟩ := c.def_ 15 (d := dd "bows_of" 26) rfl; ⟨_, fd, F, He.glo_ok X G (c.fact 15 (f := .glo "bows_of") rfl)⟩
  lacking := let ⟨fd, F⟩ := c.def_ 16 (d := dd "lacking" 27) rfl; ⟨_, fd, F, He.glo_ok X G (c.fact 16 (f := .glo "lacking") rfl)⟩
  ranked := let ⟨fd, F⟩ := c.def_ 17 (d := dd "ranked" 28) rfl; ⟨_, fd, F, He.glo_ok X G (c.fact 17 (f := .glo "ranked") rfl)⟩
  costs_from := let ⟨fd, F⟩ := c.def_ 18 (d := dd "costs_from" 30) rfl; ⟨_, fd, F, He.glo_ok X G (c.fact 18 (f := .glo "costs_from") rfl)⟩
  _law_mixed := let ⟨fd, F⟩ := c.def_ 19 (d := dd "_law_mixed" 34) rfl; ⟨_, fd, F, He.glo_ok X G (c.fact 19 (f := .glo "_law_mixed") rfl)⟩
  _law_road := let ⟨fd, F⟩ := c.def_ 20 (d := dd "_law_road" 35) rfl; ⟨_, fd, F, He.glo_ok X G (c.fact 20 (f := .glo "_law_road") rfl)⟩
  _law_map := let ⟨fd, F⟩ := c.def_ 21 (d := dd "_law_map" 36) rfl; ⟨_, fd, F, He.glo_ok X G (c.fact 21 (f := .glo "_law_map") rfl)⟩
  _law_order := let ⟨fd, F⟩ := c.def_ 22 (d := dd "_law_order" 37) rfl; ⟨_, fd, F, He.glo_ok X G (c.fact 22 (f := .glo "_law_order") rfl)⟩
  _law_told := let ⟨fd, F⟩ := c.def_ 23 (d := dd "_law_told" 38) rfl; ⟨_, fd, F, He.glo_ok X G (c.fact 23 (f := .glo "_law_told") rfl)⟩
  law := let ⟨fd, F⟩ := c.def_ 24 (d := dd "law" 39) rfl; ⟨_, fd, F, He.glo_ok X G (c.fact 24 (f := .glo "law") rfl)⟩
  k_MOST_PLACES := He.int_ok X G (c.fact 45 (f := .int "MOST_PLACES" 16) rfl)
  k_MOST_ROADS := He.int_ok X G (c.fact 46 (f := .int "MOST_ROADS" 60) rfl)
  x_NoArc := He.excls_ok X G (c.fact 47 (f := .glo "NoArc") rfl) (c.fact 48 (f := .exc "NoArc") rfl)
  x_NoMap := He.excls_ok X G (c.fact 49 (f := .glo "NoMap") rfl) (c.fact 50 (f := .exc "NoMap") rfl)
  x_NoOrder := He.excls_ok X G (c.fact 51 (f := .glo "NoOrder") rfl) (c.fact 52 (f := .exc "NoOrder") rfl)
  f_best := fldTb_of fun c hc => by
    simp only [fl_best, List.mem_cons, List.not_mem_nil, or_false] at hc
    subst hc
    exact ⟨_, He.glo_ok X G (c.fact 53 (f := .glo "Ladder") rfl), He.cls_ok (c.fact 54 (f := .cls "Ladder") rfl), He.noat_ok (c.fact 55 (f := .noat "Ladder" "best") rfl)⟩
  f_inner := fldTb_of fun c hc => by
    simp only [fl_inner, List.mem_cons, List.not_mem_nil, or_false] at hc
    subst hc
    exact ⟨_, He.glo_ok X G (c.fact 53 (f := .glo "Ladder") rfl), He.cls_ok (c.fact 54 (f := .cls "Ladder") rfl), He.noat_ok (c.fact 56 (f := .noat "Ladder" "inner") rfl)⟩
  f_laid := fldTb_of fun c hc => by
    simp only [fl_laid, List.mem_cons, List.not_mem_nil, or_false] at hc
    subst hc
    exact ⟨_, He.glo_ok X G (c.fact 53 (f := .glo "Ladder") rfl), He.cls_ok (c.fact 54 (f := .cls "Ladder") rfl), He.noat_ok (c.fact 57 (f := .noat "Ladder" "laid") rfl)⟩
  f_land := fldTb_of fun c hc => by
    simp only [fl_land, List.mem_cons, List.not_mem_nil, or_false] at hc
    subst hc
    exact ⟨_, He.glo_ok X G (c.fact 53 (f := .glo "Ladder") rfl), He.cls_ok (c.fact 54 (f := .cls "Ladder") rfl), He.noat_ok (c.fact 58 (f := .noat "Ladder" "land") rfl)⟩
  f_line := fldTb_of fun c hc => by
    simp only [fl_line, List.mem_cons, List.not_mem_nil, or_false] at hc
    subst hc
    exact ⟨_, He.glo_ok X G (c.fact 53 (f := .glo "Ladder") rfl), He.cls_ok (c.fact 54 (f := .cls "Ladder") rfl), He.noat_ok (c.fact 59 (f := .noat "Ladder" "line") rfl)⟩
  i_Ladder := let ⟨fd, F⟩ := c.def_ 25 (d := dm "Ladder" "__init__" "Ladder.__init__" (inClass (topS 32) 0) [.non]) rfl; ⟨_, _, fd, He.glo_ok X G (c.fact 53 (f := .glo "Ladder") rfl), He.mkr_ok (c.fact 60 (f := .mkr "Ladder") rfl), F⟩
  m_Ladder_arc := let ⟨fd, F⟩ := c.def_ 26 (d := dm "Ladder" "arc" "Ladder.arc" (inClass (topS 32) 4) []) rfl; ⟨_, _, fd, He.glo_ok X G (c.fact 53 (f := .glo "Ladder") rfl), He.cls_ok (c.fact 54 (f := .cls "Ladder") rfl), He.meth_ok (c.fact 61 (f := .meth "Ladder" "arc") rfl), F⟩
  m_Ladder_arcs := let ⟨fd, F⟩ := c.def_ 27 (d := dm "Ladder" "arcs" "Ladder.arcs" (inClass (topS 32) 3) []) rfl; ⟨_, _, fd, He.glo_ok X G (c.fact 53 (f := .glo "Ladder") rfl), He.cls_ok (c.fact 54 (f := .cls "Ladder") rfl), He.meth_ok (c.fact 62 (f := .meth "Ladder" "arcs") rfl), F⟩
  m_Ladder_cost := let ⟨fd, F⟩ := c.def_ 28 (d := dm "Ladder" "cost" "Ladder.cost" (inClass (topS 32) 5) []) rfl; ⟨_, _, fd, He.glo_ok X G (c.fact 53 (f := .glo "Ladder") rfl), He.cls_ok (c.fact 54 (f := .cls "Ladder") rfl), He.meth_ok (c.fact 63 (f := .meth "Ladder" "cost") rfl), F⟩
  m_Ladder_found_best := let ⟨fd, F⟩ := c.def_ 29 (d := dm "Ladder" "found_best" "Ladder.found_best" (inClass (topS 32) 9) []) rfl; ⟨_, _, fd, He.glo_ok X G (c.fact 53 (f := .glo "Ladder") rfl), He.cls_ok (c.fact 54 (f := .cls "Ladder") rfl), He.meth_ok (c.fact 64 (f := .meth "Ladder" "found_best") rfl), F⟩
  m_Ladder_middle := let ⟨fd, F⟩ := c.def_ 30 (d := dm "Ladder" "middle" "Ladder.middle" (inClass (topS 32) 6) []) rfl; ⟨_, _, fd, He.glo_ok X G (c.fact 53 (f := .glo "Ladder") rfl), He.cls_ok (c.fact 54 (f := .cls "Ladder") rfl), He.meth_ok (c.fact 65 (f := .meth "Ladder" "middle") rfl), F⟩
  m_Ladder_order := let ⟨fd, F⟩ := c.def_ 31 (d := dm "Ladder" "order" "Ladder.order" (inClass (topS 32) 2) []) rfl; ⟨_, _, fd, He.glo_ok X G (c.fact 53 (f := .glo "Ladder") rfl), He.cls_ok (c.fact 54 (f := .cls "Ladder") rfl), He.meth_ok (c.fact 66 (f := .meth "Ladder" "order") rfl), F⟩
  m_Ladder_told_map := let ⟨fd, F⟩ := c.def_ 32 (d := dm "Ladder" "told_map" "Ladder.told_map" (inClass (topS 32) 1) []) rfl; ⟨_, _, fd, He.glo_ok X G (c.fact 53 (f := .glo "Ladder") rfl), He.cls_ok (c.fact 54 (f := .cls "Ladder") rfl), He.meth_ok (c.fact 67 (f := .meth "Ladder" "told_map") rfl), F⟩
theorem facts (hlaw : ∀ ns : List Int, ns.length ≤ 63 → Bits ns → callD 1 10 g_law [.fz (ns.map D.int)] = .ok (.bl true)) {P : Program} {w : World} {K : PySem.W.Frag} {h : Heap} {mg : Str → Option Value} {f : Addr} (X : K.In h) (G : h.Ns mainGlobals mg) (hfa : mg ("law" : Str) = some (.ref f)) (c : He.SaysY fal fnl fbl K) :
    ∃ fd : FuncData, (∀ (s : Shared) (v : Value), BindsTo s fd ⟨[v], []⟩ [("_law_script", v)]) ∧ ∀ base : Heap, K.In base → base.Ns mainGlobals mg → FnOk P w K mg base CX0 8 f fd ["_law_script"] (spLaw K) := by
  have T := tab_of X G c
  obtain ⟨f', fd, F, hm⟩ := T.law
  have e := hfa.symm.trans hm
  cases e
  have b := FunD.bindsA (ps := ["_law_script"]) F fun _ _ _ _ _ _ us hl => match us, hl with | [_], _ => rfl
  exact ⟨fd, fun s v => b s [v] rfl, fun base _ _ => law_ok rfl (fun _ z => z) (fk_law (lk := fun _ => False) T F) hlaw⟩
end Nl
open PySem PySem.W PySem.Calls PyProof.Rows
set_option maxRecDepth 100000 in
set_option maxHeartbeats 0 in
theorem PySem.Challenge.cw_nodeladder_k31_ladder_told_holds : PySem.Challenge.rw_nodeladder_k31_ladder_told.Holds := by
  w_on; o_law
  refine HandSHeadRun.head_any (r := (PySem.W.OpenLaw.row PySem.Challenge.rw_nodeladder_k31_ladder_told)) (q := view (PySem.W.OpenLaw.row PySem.Challenge.rw_nodeladder_k31_ladder_told).prog [39]) (H := Nl.hk) (ob := Nl.ob) (M := 4000) (loose := Nl.loose) (d := HandSHeadRun.topDef (PySem.W.OpenLaw.row PySem.Challenge.rw_nodeladder_k31_ladder_told).prog 39) (kwd := []) Nl.ob_eq
    (by kernel_rfl) (fun s => by kernel_rfl) Nl.run (by kernel_rfl) (by kernel_rfl) (by kernel_rfl) (by rfl) (by first | assumption | decide +kernel) (by decide +kernel) ⟨rfl, rfl, rfl, rfl, rfl, by decide +kernel⟩ ?hw ?hc
  case hw => w_witness2
  case hc =>
    refine Pd.walk_ofEB (l := PySem.Challenge.rw_nodeladder_k31_ladder_told) (n := 63) (k := 8) (x := "_law_script") rfl (by decide) (by decide) (by kernel_rfl) ⟨rfl, by decide, by decide⟩ ?F
    intro w mg fa h Y G hmg0
    obtain ⟨K, KX, c⟩ := Y
    have hmg : mg ("law" : PySem.Str) = some (.ref fa) := by
      have e : (HandSHeadRun.topDef (PySem.W.OpenLaw.row PySem.Challenge.rw_nodeladder_k31_ladder_told).prog 39).name = ("law" : PySem.Str) := by kernel_rfl
      rw [← e]
      exact hmg0
    obtain ⟨fd, hb, hF⟩ := Nl.facts Nl.law_true (P := (PySem.Challenge.rw_nodeladder_k31_ladder_told).prog) (w := w) KX G hmg c
    exact ⟨K, fd, KX, hb, hF⟩
