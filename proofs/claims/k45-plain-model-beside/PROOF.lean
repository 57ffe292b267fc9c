import PyProof.Rows.All
import KE.GoesNew
import KE.DatumOrd
import HandS.Conv
import HandS.WordsDict
import Wide.All
import OpenK.AllK
import Wide.FinOn
import HandS.ForMost
import HandS.Wide
import HandS.NoneIn
import HandS.More
import HandS.TupAny
import HandS.IsInst
import KE.BitLaws
import PySem.Challenge.RW_needplan_k45_plain_model_beside
set_option Elab.async false
set_option linter.all false
set_option maxRecDepth 100000
set_option maxHeartbeats 4000000
/-! The value layer: readings of the hand layer told over plain data. -/
namespace VL
open PySem L2

/-- plain data; st is a list that is drawn from (its content is only known to be good) -/
inductive D where
  | non | bl (b : Bool) | int (i : Int) | str (x : Str)
  | tup (ds : List D) | lst (ds : List D) | ro (ds : List D) | dct (kvs : List (Key × D)) | lkd (a : Addr) (kvs : List (Key × D)) | st | ty (n : String)

section
variable (K : PySem.W.Frag) (G : List Int → Prop)

mutual
inductive At (R : Hp) : V → D → Prop
  | non : At R .non .non
  | bl (b : Bool) : At R (.bl b) (.bl b)
  | int (i : Int) : At R (.int i) (.int i)
  | str (x : Str) : At R (.str x) (.str x)
  | tup {a : Addr} {xs : List V} {ds : List D} : SqT K R a xs → AtL R xs ds → At R (.ref a) (.tup ds)
  | lst {a : Addr} {xs : List V} {ds : List D} : R a = some (.lst xs) → AtL R xs ds → At R (.ref a) (.lst ds)
  | ro {a : Addr} {xs : List V} {ds : List D} : SqL K R a xs → AtL R xs ds → At R (.ref a) (.ro ds)
  | dct {a : Addr} {xs : List (Key × V)} {ds : List (Key × D)} : R a = some (.dK xs) → AtD R xs ds → At R (.ref a) (.dct ds)
  | lkd {a : Addr} {o : Obj} {xs : List (Key × V)} {ds : List (Key × D)} : R a = some (.frz o (.dK xs)) → AtD R xs ds → At R (.ref a) (.lkd a ds)
  | st {a : Addr} {φ : Heap → Prop} : R a = some (.ext φ) → At R (.ref a) .st
  | ty (n : String) : At R (.ty n) (.ty n)
inductive AtL (R : Hp) : List V → List D → Prop
  | nil : AtL R [] []
  | cons {v : V} {vs : List V} {d : D} {ds : List D} : At R v d → AtL R vs ds → AtL R (v :: vs) (d :: ds)
inductive AtD (R : Hp) : List (Key × V) → List (Key × D) → Prop
  | nil : AtD R [] []
  | cons {k : Key} {v : V} {vs : List (Key × V)} {d : D} {ds : List (Key × D)} : At R v d → AtD R vs ds → AtD R ((k, v) :: vs) ((k, d) :: ds)
end

/-- what R tells of a, H tells too; what R marks as drawn from is a good list -/
def SubAt (H : Hp) (a : Addr) : HO → Prop
  | .ext _ => ∃ ns : List Int, H a = some (.lst (ns.map V.int)) ∧ G ns
  | x => H a = some x
def Sub (R H : Hp) : Prop := ∀ a x, R a = some x → SubAt G H a x

structure Step (R H R' H' : Hp) : Prop where
  same : Same R R'
  sub : Sub G R' H'
  kept : ∀ a y, H a = some y → (∀ φ, R a ≠ some (.ext φ)) → H' a = some y
  out : ∀ a y, H a = some y → R a = none → R' a = none

/-- the content of an object that the def alone knows -/
def MAt (R : Hp) : HO → D → Prop
  | .lst xs, .lst ds => AtL K R xs ds
  | .dK xs, .dct ds => AtD K R xs ds
  | _, _ => False

inductive Slot where
  | u | p (d : D) | mu (d : D)
abbrev Vn := List Slot
/-- a value on the way: plain; an own new object; the object of a slot -/
inductive XV where
  | p (d : D) | o (d : D) | m (i : Nat) (d : D)

/-- the state ahead of the def -/
structure Bs where
  R : Hp
  H : Hp
  /-- own objects that no slot holds, as they must stay -/
  pr : List (Addr × HO)

def SlotAt (B : Bs) (R H : Hp) (σ : L2.St) (i : Nat) : Slot → Prop
  | .u => True
  | .p d => ∃ v, σ[i]? = some (some v) ∧ At K R v d
  | .mu d => ∃ a y, σ[i]? = some (some (.ref a)) ∧ B.H a = none ∧ R a = none ∧ H a = some y ∧ MAt K R y d

structure Rep (B : Bs) (env : Vn) (σ : L2.St) (R H : Hp) : Prop where
  sub0 : Sub G B.R B.H
  step : Step G B.R B.H R H
  len : σ.length = env.length
  slots : ∀ (i : Nat) s, env[i]? = some s → SlotAt K B R H σ i s
  dist : ∀ (i j : Nat) d e, i ≠ j → env[i]? = some (.mu d) → env[j]? = some (.mu e) → σ[i]? ≠ σ[j]?
  pr : ∀ q ∈ B.pr, B.H q.1 = none ∧ R q.1 = none ∧ H q.1 = some q.2 ∧ ∀ (j : Nat) e, env[j]? = some (.mu e) → σ[j]? ≠ some (some (.ref q.1))

def VAt (B : Bs) (env : Vn) (σ : L2.St) (R H : Hp) (v : V) : XV → Prop
  | .p d => At K R v d
  | .o d => ∃ a y, v = .ref a ∧ B.H a = none ∧ R a = none ∧ H a = some y ∧ MAt K R y d ∧ (∀ (j : Nat) e, env[j]? = some (.mu e) → σ[j]? ≠ some (some v)) ∧ ∀ q ∈ B.pr, q.1 ≠ a
  | .m i d => env[i]? = some (.mu d) ∧ σ[i]? = some (some v)

def VE (B : Bs) (t : TE) (env : Vn) (Q : XV → Prop) : Prop := ∀ σ R H, Rep K G B env σ R H → ∀ Qh : VK,
  (∀ v R' H' x, Rep K G B env σ R' H' → Same R R' → VAt K B env σ R' H' v x → Q x → Qh v H') → t σ H Qh
def VT (B : Bs) (t : TT) (env : Vn) (Q : Bool → Prop) : Prop := ∀ σ R H, Rep K G B env σ R H → ∀ Qh : Bool → Hp → Prop,
  (∀ b R' H', Rep K G B env σ R' H' → Same R R' → Q b → Qh b H') → t σ H Qh
/-- arguments: new objects are given away, slots' objects are only lent -/
def VAtL (B : Bs) (env : Vn) (σ : L2.St) (R H : Hp) : List V → List XV → Prop
  | [], [] => True
  | v :: vs, x :: xs => VAt K B env σ R H v x ∧ VAtL B env σ R H vs xs
  | _, _ => False
def XV.isO : XV → Bool
  | .o _ => true
  | _ => false
def XV.fz (x : XV) (k : XV → Prop) : Prop := match x with
  | .o d => k (.p d)
  | .p d => k (.p d)
  | .m i d => k (.m i d)
def VA (B : Bs) (t : TA) (env : Vn) (Q : List XV → Prop) : Prop := ∀ σ R H, Rep K G B env σ R H → ∀ Qh : List V → Hp → Prop,
  (∀ vs R' H' xs, Rep K G B env σ R' H' → Same R R' → VAtL K B env σ R' H' vs xs → (∀ x ∈ xs, x.isO = false) → Q xs → Qh vs H') → t σ H Qh
/-- an operation on two values -/
def VO (B : Bs) (r : V → V → Hp → VK → Prop) (env : Vn) (x y : XV) (Q : XV → Prop) : Prop := ∀ σ R H, Rep K G B env σ R H → ∀ v w, VAt K B env σ R H v x → VAt K B env σ R H w y → ∀ Qh : VK,
  (∀ z R' H' x', Rep K G B env σ R' H' → Same R R' → VAt K B env σ R' H' z x' → Q x' → Qh z H') → r v w H Qh
def VU (B : Bs) (r : V → Hp → VK → Prop) (env : Vn) (x : XV) (Q : XV → Prop) : Prop := ∀ σ R H, Rep K G B env σ R H → ∀ v, VAt K B env σ R H v x → ∀ Qh : VK,
  (∀ z R' H' x', Rep K G B env σ R' H' → Same R R' → VAt K B env σ R' H' z x' → Q x' → Qh z H') → r v H Qh
def VC (B : Bs) (r : List V → Hp → VK → Prop) (env : Vn) (xs : List XV) (Q : XV → Prop) : Prop := ∀ σ R H, Rep K G B env σ R H → ∀ vs, VAtL K B env σ R H vs xs → ∀ Qh : VK,
  (∀ z R' H' x', Rep K G B env σ R' H' → Same R R' → VAt K B env σ R' H' z x' → Q x' → Qh z H') → r vs H Qh
/-- a method of a value upon arguments -/
def VM (B : Bs) (r : V → List V → Hp → VK → Prop) (env : Vn) (x : XV) (xs : List XV) (Q : Vn → XV → Prop) : Prop := True

def VS (B : Bs) (t : TS) (env : Vn) (nx : Vn → Prop) (rt : XV → Prop) (bk ct : Vn → Prop) : Prop := ∀ σ R H, Rep K G B env σ R H → ∀ Z : Ends,
  (∀ env' σ' R' H', Rep K G B env' σ' R' H' → Same R R' → nx env' → Z.nx σ' H') →
  (∀ v env' σ' R' H' x, Rep K G B env' σ' R' H' → Same R R' → VAt K B env' σ' R' H' v x → rt x → Z.rt v H') →
  (∀ env' σ' R' H', Rep K G B env' σ' R' H' → Same R R' → bk env' → Z.bk σ' H') →
  (∀ env' σ' R' H', Rep K G B env' σ' R' H' → Same R R' → ct env' → Z.ct σ' H') → t Z σ H
/-- a target: what is bound is plain -/
def VG (B : Bs) (g : TG) (x : XV) (env : Vn) (Q : Vn → Prop) : Prop := ∀ σ R H, Rep K G B env σ R H → ∀ v, VAt K B env σ R H v x → ∀ Qh : L2.St → Hp → Prop,
  (∀ env' σ' R' H', Rep K G B env' σ' R' H' → Same R R' → Q env' → Qh σ' H') → g v σ H Qh
end

section
variable {K : PySem.W.Frag} {G : List Int → Prop} {B : Bs} {env : Vn} {σ : L2.St} {R R' R1 H H' H1 : Hp}

theorem same_rd {a : Addr} {u : HO} (e : Same R R') (h : Rd R a u) : Rd R' a u := by
  rcases h with h | ⟨o, h⟩
  · exact .inl (e _ _ h)
  · exact .inr ⟨o, e _ _ h⟩
theorem same_t {a : Addr} {xs : List V} (e : Same R R') (h : SqT K R a xs) : SqT K R' a xs := by
  rcases h with h | h
  · exact .inl (same_rd e h)
  · exact .inr h
theorem same_l {a : Addr} {xs : List V} (e : Same R R') (h : SqL K R a xs) : SqL K R' a xs := by
  rcases h with h | h
  · exact .inl (same_rd e h)
  · exact .inr h
mutual
theorem At.same (e : Same R R') : ∀ {v : V} {d : D}, At K R v d → At K R' v d
  | _, _, .non => .non
  | _, _, .bl b => .bl b
  | _, _, .int i => .int i
  | _, _, .str x => .str x
  | _, _, .tup h t => .tup (same_t e h) (AtL.same e t)
  | _, _, .lst h t => .lst (e _ _ h) (AtL.same e t)
  | _, _, .ro h t => .ro (same_l e h) (AtL.same e t)
  | _, _, .dct h t => .dct (e _ _ h) (AtD.same e t)
  | _, _, .lkd h t => .lkd (e _ _ h) (AtD.same e t)
  | _, _, .st h => .st (e _ _ h)
  | _, _, .ty n => .ty n
theorem AtL.same (e : Same R R') : ∀ {vs : List V} {ds : List D}, AtL K R vs ds → AtL K R' vs ds
  | _, _, .nil => .nil
  | _, _, .cons h t => .cons (At.same e h) (AtL.same e t)
theorem AtD.same (e : Same R R') : ∀ {vs : List (Key × V)} {ds : List (Key × D)}, AtD K R vs ds → AtD K R' vs ds
  | _, _, .nil => .nil
  | _, _, .cons h t => .cons (At.same e h) (AtD.same e t)
end
theorem MAt.same (e : Same R R') {y : HO} {d : D} (h : MAt K R y d) : MAt K R' y d := by
  cases y <;> cases d <;> first | exact h.elim | exact AtL.same e h | exact AtD.same e h
theorem AtL.len : ∀ {vs : List V} {ds : List D}, AtL K R vs ds → vs.length = ds.length
  | _, _, .nil => rfl
  | _, _, .cons _ t => congrArg (· + 1) (AtL.len t)
theorem AtL.get : ∀ {vs : List V} {ds : List D} {i : Nat} {d : D}, AtL K R vs ds → ds[i]? = some d → ∃ v, vs[i]? = some v ∧ At K R v d
  | _, _, _, _, .nil, h => by simp at h
  | _, _, 0, _, .cons h _, e => by
    simp at e
    subst e
    exact ⟨_, rfl, h⟩
  | _, _, i + 1, _, .cons _ t, e => by
    obtain ⟨v, h1, h2⟩ := AtL.get (i := i) t (by simpa using e)
    exact ⟨v, by simpa using h1, h2⟩
theorem AtL.imp : ∀ {vs : List V} {ds : List D}, AtL K R vs ds → (∀ v d, d ∈ ds → At K R v d → At K R' v d) → AtL K R' vs ds
  | _, _, .nil, _ => .nil
  | _, _, .cons h t, f => .cons (f _ _ List.mem_cons_self h) (AtL.imp t fun v d hm => f v d (List.mem_cons_of_mem _ hm))
theorem AtD.imp : ∀ {vs : List (Key × V)} {ds : List (Key × D)}, AtD K R vs ds → (∀ v d, d ∈ ds.map (·.2) → At K R v d → At K R' v d) → AtD K R' vs ds
  | _, _, .nil, _ => .nil
  | _, _, .cons h t, f => .cons (f _ _ (by simp) h) (AtD.imp t fun v d hm => f v d (by simp at hm ⊢; exact .inr hm))
theorem AtL.app : ∀ {vs ws : List V} {ds es : List D}, AtL K R vs ds → AtL K R ws es → AtL K R (vs ++ ws) (ds ++ es)
  | _, _, _, _, .nil, s => s
  | _, _, _, _, .cons h t, s => .cons h (AtL.app t s)
theorem AtL.take : ∀ {vs : List V} {ds : List D} (n : Nat), AtL K R vs ds → AtL K R (vs.take n) (ds.take n)
  | _, _, 0, _ => .nil
  | _, _, _ + 1, .nil => .nil
  | _, _, n + 1, .cons h t => .cons h (AtL.take n t)
theorem AtL.drop : ∀ {vs : List V} {ds : List D} (n : Nat), AtL K R vs ds → AtL K R (vs.drop n) (ds.drop n)
  | _, _, 0, t => t
  | _, _, _ + 1, .nil => .nil
  | _, _, n + 1, .cons _ t => AtL.drop n t
theorem AtL.set {v : V} {d : D} (h : At K R v d) : ∀ {vs : List V} {ds : List D} (n : Nat), AtL K R vs ds → AtL K R (vs.set n v) (ds.set n d)
  | _, _, _, .nil => .nil
  | _, _, 0, .cons _ t => .cons h t
  | _, _, n + 1, .cons q t => .cons q (AtL.set h n t)
theorem AtL.erase : ∀ {vs : List V} {ds : List D} (n : Nat), AtL K R vs ds → AtL K R (vs.eraseIdx n) (ds.eraseIdx n)
  | _, _, _, .nil => .nil
  | _, _, 0, .cons _ t => t
  | _, _, n + 1, .cons h t => .cons h (AtL.erase n t)
theorem AtL.ints : ∀ (ns : List Int), AtL K R (ns.map V.int) (ns.map D.int)
  | [] => .nil
  | n :: r => .cons (.int n) (AtL.ints r)
theorem AtL.ints_inv : ∀ {vs : List V} {ns : List Int}, AtL K R vs (ns.map D.int) → vs = ns.map V.int
  | _, [], h => by cases h; rfl
  | _, n :: r, h => by
    cases h with
    | cons h t =>
      cases h
      rw [AtL.ints_inv t]
      rfl

theorem Sub.none (s : Sub G R H) {a : Addr} (h : H a = Option.none) : R a = Option.none := by
  cases e : R a with
  | none => rfl
  | some x =>
    have := s a x e
    cases x <;> simp only [SubAt] at this <;> first
      | (rw [h] at this; cases this; done)
      | (obtain ⟨ns, q, _⟩ := this; rw [h] at q; cases q)
theorem Sub.of (s : Sub G R H) {a : Addr} {x : HO} (h : R a = some x) (hx : ∀ φ, x ≠ .ext φ) : H a = some x := by
  have := s a x h
  cases x <;> first | exact absurd rfl (hx _) | exact this
theorem Sub.rd (s : Sub G R H) {a : Addr} {x : HO} (h : Rd R a x) (hx : ∀ φ, x ≠ .ext φ) : Rd H a x := by
  rcases h with h | ⟨o, h⟩
  · exact .inl (s.of h hx)
  · exact .inr ⟨o, s.of h fun φ z => by cases z⟩
theorem Sub.t (s : Sub G R H) {a : Addr} {xs : List V} (h : SqT K R a xs) : SqT K H a xs := by
  rcases h with h | h
  · exact .inl (s.rd h fun φ z => by cases z)
  · exact .inr h
theorem Sub.l (s : Sub G R H) {a : Addr} {xs : List V} (h : SqL K R a xs) : SqL K H a xs := by
  rcases h with h | h
  · exact .inl (s.rd h fun φ z => by cases z)
  · exact .inr h
theorem Step.refl (s : Sub G R H) : Step G R H R H := ⟨Same.refl R, s, fun _ _ h _ => h, fun _ _ _ h => h⟩
theorem Step.nx (s : Step G R H R1 H1) {a : Addr} (hx : ∀ φ, R a ≠ some (.ext φ)) {y : HO} (h : H a = some y) : ∀ φ, R1 a ≠ some (.ext φ) := fun φ z => by
  cases e : R a with
  | none =>
    rw [s.out a y h e] at z
    cases z
  | some x =>
    rw [s.same a x e] at z
    cases z
    exact hx _ e
theorem Step.trans (s : Step G R H R1 H1) (t : Step G R1 H1 R' H') : Step G R H R' H' where
  same := s.same.trans t.same
  sub := t.sub
  kept := fun a y h hx => t.kept a y (s.kept a y h hx) (s.nx hx h)
  out := fun a y h n => t.out a y (s.kept a y h (fun φ z => by rw [n] at z; cases z)) (s.out a y h n)
theorem Step.fresh (s0 : Sub G R H) (s : Step G R H R' H') {a : Addr} (h : H' a = Option.none) : H a = Option.none := by
  cases e : H a with
  | none => rfl
  | some y =>
    cases e1 : R a with
    | none =>
      rw [s.kept a y e fun φ z => by rw [e1] at z; cases z] at h
      cases h
    | some x =>
      have := s.sub.none h
      rw [s.same a x e1] at this
      cases this

theorem Rep.sub (r : Rep K G B env σ R H) : Sub G R H := r.step.sub
/-- a step of a call that knows nothing of the slots' own objects -/
theorem Rep.go (r : Rep K G B env σ R H) (s : Step G R H R' H') : Rep K G B env σ R' H' where
  sub0 := r.sub0
  step := r.step.trans s
  len := r.len
  dist := r.dist
  pr := fun q hq => by
    obtain ⟨h1, h2, h3, h4⟩ := r.pr q hq
    exact ⟨h1, s.out _ _ h3 h2, s.kept _ _ h3 (fun φ z => by rw [h2] at z; cases z), h4⟩
  slots := fun i sl h => by
    have := r.slots i sl h
    cases sl with
    | u => trivial
    | p d =>
      obtain ⟨v, h1, h2⟩ := this
      exact ⟨v, h1, h2.same s.same⟩
    | mu d =>
      obtain ⟨a, y, h1, h2, h3, h4, h5⟩ := this
      exact ⟨a, y, h1, h2, s.out a y h4 h3, s.kept a y h4 (fun φ z => by rw [h3] at z; cases z), h5.same s.same⟩
theorem Rep.fresh (r : Rep K G B env σ R H) {a : Addr} (h : H a = none) : B.H a = none := r.step.fresh r.sub0 h
theorem Rep.noslot (r : Rep K G B env σ R H) {a : Addr} (h : H a = none) : ∀ (j : Nat) e, env[j]? = some (.mu e) → σ[j]? ≠ some (some (.ref a)) := fun j e q z => by
  obtain ⟨b, y, h1, _, _, h4, _⟩ := r.slots j _ q
  rw [h1] at z
  cases z
  rw [h] at h4
  cases h4
theorem Rep.nopr (r : Rep K G B env σ R H) {a : Addr} (h : H a = none) : ∀ q ∈ B.pr, q.1 ≠ a := fun q hq z => by
  have h3 := (r.pr q hq).2.2.1
  rw [z, h] at h3
  cases h3
/-- a new object that is nobody's yet -/
theorem sub_new (s : Sub G R H) {a : Addr} {o : HO} (h : H a = none) : Sub G R (upd H a o) := fun b x e => by
  have hb : b ≠ a := fun z => by
    subst z
    rw [s.none h] at e
    cases e
  have := s b x e
  cases x <;> simp only [SubAt] at this ⊢ <;> first
    | (rw [upd_ne hb]; exact this; done)
    | (obtain ⟨ns, q, g⟩ := this; exact ⟨ns, by rw [upd_ne hb]; exact q, g⟩)
theorem step_new (s : Sub G R H) {a : Addr} {o : HO} (h : H a = none) : Step G R H R (upd H a o) where
  same := Same.refl R
  sub := sub_new s h
  kept := fun b y e _ => by
    rw [upd_ne (ne_of_none e h)]
    exact e
  out := fun _ _ _ n => n
theorem Rep.new (r : Rep K G B env σ R H) {a : Addr} {o : HO} (h : H a = none) : Rep K G B env σ R (upd H a o) := r.go (step_new r.sub h)
/-- what was an own object becomes plain -/
theorem sub_take (s : Sub G R H) {a : Addr} {o : HO} (h : H a = some o) (hx : ∀ φ, o ≠ .ext φ) : Sub G (upd R a o) H := fun b x e => by
  by_cases hb : b = a
  · subst hb
    rw [upd_same] at e
    cases e
    cases o <;> first | exact absurd rfl (hx _) | exact h
  · rw [upd_ne hb] at e
    exact s b x e
theorem same_take {a : Addr} {o : HO} (h : R a = none) : Same R (upd R a o) := fun b x e => by
  rw [upd_ne (ne_of_none e h)]
  exact e
theorem mat_ne {y : HO} {d : D} (h : MAt K R y d) : ∀ φ, y ≠ .ext φ := fun φ z => by
  subst z
  cases d <;> exact h.elim
theorem Rep.take (r : Rep K G B env σ R H) {a : Addr} {o : HO} (h : H a = some o) (hx : ∀ φ, o ≠ .ext φ) (h0 : B.H a = none) (hn : R a = none) (hs : ∀ (j : Nat) e, env[j]? = some (.mu e) → σ[j]? ≠ some (some (.ref a))) (hp : ∀ q ∈ B.pr, q.1 ≠ a) : Rep K G B env σ (upd R a o) H where
  sub0 := r.sub0
  step := {
    same := r.step.same.trans (same_take hn)
    sub := sub_take r.sub h hx
    kept := r.step.kept
    out := fun b y e n => by
      rw [upd_ne (ne_of_none e h0)]
      exact r.step.out b y e n }
  len := r.len
  dist := r.dist
  pr := fun q hq => by
    obtain ⟨h1, h2, h3, h4⟩ := r.pr q hq
    exact ⟨h1, by rw [upd_ne (hp q hq)]; exact h2, h3, h4⟩
  slots := fun i sl q => by
    have := r.slots i sl q
    cases sl with
    | u => trivial
    | p d =>
      obtain ⟨v, h1, h2⟩ := this
      exact ⟨v, h1, h2.same (same_take hn)⟩
    | mu d =>
      obtain ⟨b, y, h1, h2, h3, h4, h5⟩ := this
      have hb : b ≠ a := fun z => by
        subst z
        exact hs i d q h1
      exact ⟨b, y, h1, h2, by rw [upd_ne hb]; exact h3, h4, h5.same (same_take hn)⟩
theorem At.of_mat {a : Addr} {y : HO} {d : D} (h : MAt K R y d) (hn : R a = none) : At K (upd R a y) (.ref a) d := by
  cases y <;> cases d <;> first
    | exact h.elim
    | exact .lst upd_same (AtL.same (same_take hn) h)
    | exact .dct upd_same (AtD.same (same_take hn) h)

theorem VAt.go {v : V} {x : XV} (h : VAt K B env σ R H v x) (hx : x.isO = false) (s : Same R R') : VAt K B env σ R' H' v x := by
  cases x with
  | p d => exact At.same s h
  | o d => cases hx
  | m i d => exact h
theorem VAtL.go : ∀ {vs : List V} {xs : List XV}, VAtL K B env σ R H vs xs → (∀ x ∈ xs, x.isO = false) → Same R R' → VAtL K B env σ R' H' vs xs
  | [], [], _, _, _ => trivial
  | [], _ :: _, h, _, _ => h.elim
  | _ :: _, [], h, _, _ => h.elim
  | _ :: _, _ :: _, h, hx, s => ⟨h.1.go (hx _ List.mem_cons_self) s, VAtL.go h.2 (fun x q => hx x (List.mem_cons_of_mem _ q)) s⟩
/-- a value is given away -/
theorem VAt.fz {v : V} {x : XV} {k : XV → Prop} (r : Rep K G B env σ R H) (h : VAt K B env σ R H v x) (q : x.fz k) : ∃ R' x', Rep K G B env σ R' H ∧ Same R R' ∧ VAt K B env σ R' H v x' ∧ x'.isO = false ∧ k x' := by
  cases x with
  | p d => exact ⟨R, .p d, r, Same.refl R, h, rfl, q⟩
  | m i d => exact ⟨R, .m i d, r, Same.refl R, h, rfl, q⟩
  | o d =>
    obtain ⟨a, y, rfl, h0, hn, hy, hm, hs, hp⟩ := h
    exact ⟨upd R a y, .p d, r.take hy (mat_ne hm) h0 hn hs hp, same_take hn, At.of_mat hm hn, rfl, q⟩
theorem fz_p {d : D} {k : XV → Prop} (q : k (.p d)) : XV.fz (.p d) k := q
theorem fz_o {d : D} {k : XV → Prop} (q : k (.p d)) : XV.fz (.o d) k := q
theorem fz_m {i : Nat} {d : D} {k : XV → Prop} (q : k (.m i d)) : XV.fz (.m i d) k := q

/-! ### expressions -/
variable {Q : XV → Prop}
theorem ve_var {i : Nat} {d : D} (h : env[i]? = some (.p d)) (q : Q (.p d)) : VE K G B (tVar i) env Q := fun σ R H r Qh k => by
  obtain ⟨v, h1, h2⟩ := r.slots i _ h
  exact ⟨v, h1, k v R H (.p d) r (Same.refl R) h2 q⟩
theorem ve_varm {i : Nat} {d : D} (h : env[i]? = some (.mu d)) (q : Q (.m i d)) : VE K G B (tVar i) env Q := fun σ R H r Qh k => by
  obtain ⟨a, y, h1, _⟩ := r.slots i _ h
  exact ⟨_, h1, k _ R H (.m i d) r (Same.refl R) ⟨h, h1⟩ q⟩
theorem ve_int {i : Int} (q : Q (.p (.int i))) : VE K G B (tC (.int i)) env Q := fun σ R H r Qh k => k _ R H (.p (.int i)) r (Same.refl R) (At.int i) q
theorem ve_str {i : Str} (q : Q (.p (.str i))) : VE K G B (tC (.str i)) env Q := fun σ R H r Qh k => k _ R H (.p (.str i)) r (Same.refl R) (At.str i) q
theorem ve_bl {i : Bool} (q : Q (.p (.bl i))) : VE K G B (tC (.bl i)) env Q := fun σ R H r Qh k => k _ R H (.p (.bl i)) r (Same.refl R) (At.bl i) q
theorem ve_non (q : Q (.p .non)) : VE K G B (tC .non) env Q := fun σ R H r Qh k => k _ R H (.p .non) r (Same.refl R) At.non q
theorem ve_op {r : R2} {ta tb : TE} (h : VE K G B ta env fun x => x.fz fun x => VE K G B tb env fun y => y.fz fun y => VO K G B r env x y Q) : VE K G B (tOp r ta tb) env Q := fun σ R H rp Qh k =>
  h σ R H rp _ fun v R1 H1 x r1 s1 hv q => by
    obtain ⟨R2, x', r2, s2, hv2, ho, q2⟩ := hv.fz r1 q
    refine q2 σ R2 H1 r2 _ fun w R3 H3 y r3 s3 hw q3 => ?_
    obtain ⟨R4, y', r4, s4, hw4, ho4, q4⟩ := hw.fz r3 q3
    exact q4 σ R4 H3 r4 v w (hv2.go ho (s3.trans s4)) hw4 Qh fun z R5 H5 x5 r5 s5 hz q5 => k z R5 H5 x5 r5 (((((s1.trans s2).trans s3).trans s4)).trans s5) hz q5
theorem ve_un {r : V → Hp → VK → Prop} {ta : TE} (h : VE K G B ta env fun x => x.fz fun x => VU K G B r env x Q) : VE K G B (tUn r ta) env Q := fun σ R H rp Qh k =>
  h σ R H rp _ fun v R1 H1 x r1 s1 hv q => by
    obtain ⟨R2, x', r2, s2, hv2, ho, q2⟩ := hv.fz r1 q
    exact q2 σ R2 H1 r2 v hv2 Qh fun z R5 H5 x5 r5 s5 hz q5 => k z R5 H5 x5 r5 ((s1.trans s2).trans s5) hz q5
theorem va_nil {Q : List XV → Prop} (q : Q []) : VA K G B tNil env Q := fun σ R H rp Qh k => k [] R H [] rp (Same.refl R) trivial (fun _ h => by cases h) q
theorem va_cons {Q : List XV → Prop} {ta : TE} {tr : TA} (h : VE K G B ta env fun x => x.fz fun x => VA K G B tr env fun xs => Q (x :: xs)) : VA K G B (tCons ta tr) env Q := fun σ R H rp Qh k =>
  h σ R H rp _ fun v R1 H1 x r1 s1 hv q => by
    obtain ⟨R2, x', r2, s2, hv2, ho, q2⟩ := hv.fz r1 q
    refine q2 σ R2 H1 r2 _ fun vs R3 H3 xs r3 s3 hvs hx q3 => ?_
    exact k (v :: vs) R3 H3 (x' :: xs) r3 ((s1.trans s2).trans s3) ⟨hv2.go ho s3, hvs⟩ (fun y hy => by
      rcases List.mem_cons.mp hy with rfl | hy
      · exact ho
      · exact hx y hy) q3
theorem ve_cb {r : List V → Hp → VK → Prop} {t : TA} (h : VA K G B t env fun xs => VC K G B r env xs Q) : VE K G B (tCB r t) env Q := fun σ R H rp Qh k =>
  h σ R H rp _ fun vs R1 H1 xs r1 s1 hv _ q => q σ R1 H1 r1 vs hv Qh fun z R5 H5 x5 r5 s5 hz q5 => k z R5 H5 x5 r5 (s1.trans s5) hz q5

/-! ### calls of defs -/
/-- the promise of a def: args and result are plain data; fr: the result is a new object; rs: the classes that may be raised -/
def SpA (K : PySem.W.Frag) (G : List Int → Prop) {α : Type} (fr : Bool) (args : α → List D) (pre : α → Prop) (post : α → D → Prop) (rs : α → Addr → Prop) : Sp := fun vs H Q E =>
  ∃ R x, Sub G R H ∧ AtL K R vs (args x) ∧ pre x ∧
    (∀ v R' H' d, Step G R H R' H' → At K R' v d → (fr = true → ∃ a, v = .ref a ∧ H a = none ∧ ∀ o u, R' a ≠ some (.frz o u)) → post x d → Q v H') ∧
    (∀ C R' H', Step G R H R' H' → rs x C → E (.ref C) none H')
abbrev noRs {α : Type} : α → Addr → Prop := fun _ _ => False
def XV.plain : XV → Option D
  | .p d => some d
  | _ => none
theorem atL_of : ∀ {vs : List V} {ds : List D}, VAtL K B env σ R H vs (ds.map XV.p) → AtL K R vs ds
  | [], [], _ => .nil
  | [], _ :: _, h => h.elim
  | _ :: _, [], h => h.elim
  | _ :: _, _ :: _, h => .cons h.1 (atL_of h.2)
/-- what the def may raise, goes on -/
def Lets (G : List Int → Prop) (B : Bs) (E : XK) (X : Addr → Prop) : Prop := ∀ C R' H', Step G B.R B.H R' H' → X C → E (.ref C) none H'
theorem lets_none {E : XK} : Lets G B E fun _ => False := fun _ _ _ _ h => h.elim
theorem ve_call {α : Type} {fr : Bool} {args : α → List D} {pre : α → Prop} {post : α → D → Prop} {rs : α → Addr → Prop} {E : XK} {X : Addr → Prop} {t : TA} (L : Lets G B E X)
    (h : VA K G B t env fun xs => ∃ x, xs = (args x).map XV.p ∧ pre x ∧ (∀ C, rs x C → X C) ∧ ∀ d, post x d → Q (.p d)) : VE K G B (tCall (SpA K G fr args pre post rs) [] E t) env Q := fun σ R H rp Qh k =>
  h σ R H rp _ fun vs R1 H1 xs r1 s1 hv _ ⟨x, e, hp, hr, q⟩ => by
    subst e
    rw [List.append_nil]
    exact ⟨R1, x, r1.sub, atL_of hv, hp, fun v R' H' d s ha _ hd => k v R' H' (.p d) (r1.go s) (s1.trans s.same) ha (q d hd), fun C R' H' s hc => L C R' H' (r1.step.trans s) (hr C hc)⟩
/-- no list or dict within -/
def D.deepT : Nat → D → Bool
  | 0, _ => false
  | n + 1, d => match d with
    | .tup ds => ds.all (D.deepT n)
    | .lst _ => false
    | .ro _ => false
    | .dct _ => false
    | .lkd _ _ => false
    | _ => true
def D.flat (d : D) : Bool := match d with
  | .lst ds => ds.all (D.deepT 9)
  | .dct kvs => kvs.all fun p => D.deepT 9 p.2
  | d => D.deepT 9 d
def without (R : Hp) (a : Addr) : Hp := fun b => if b = a then none else R b
theorem without_ne {a b : Addr} (h : b ≠ a) : without R a b = R b := by unfold without; rw [if_neg h]
theorem without_same {a : Addr} : without R a a = none := by unfold without; rw [if_pos rfl]
def isLD : HO → Bool
  | .lst _ => true
  | .dK _ => true
  | _ => false
theorem at_without {a : Addr} {y : HO} (ha : R a = some y) (hy : isLD y = true) : ∀ (n : Nat) {v : V} {d : D}, D.deepT n d = true → At K R v d → At K (without R a) v d := by
  intro n
  induction n with
  | zero => intro v d h _; cases h
  | succ n ih =>
    intro v d h t
    cases t with
    | non => exact .non
    | bl b => exact .bl b
    | int i => exact .int i
    | str x => exact .str x
    | @tup b xs ds hs ht =>
      refine .tup (xs := xs) ?_ ?_
      · rcases hs with (hs | ⟨o, hs⟩) | hs
        · refine .inl (.inl ?_)
          rw [without_ne]
          · exact hs
          · rintro rfl
            rw [ha] at hs
            cases hs
            cases hy
        · refine .inl (.inr ⟨o, ?_⟩)
          rw [without_ne]
          · exact hs
          · rintro rfl
            rw [ha] at hs
            cases hs
            cases hy
        · exact .inr hs
      · have hd : ∀ d ∈ ds, D.deepT n d = true := List.all_eq_true.mp h
        exact ht.imp fun v d hm => ih (hd d hm)
    | lst _ _ => cases h
    | ro _ _ => cases h
    | dct _ _ => cases h
    | lkd _ _ => cases h
    | ty n => exact .ty n
    | @st b φ hs =>
      refine .st (φ := φ) ?_
      rw [without_ne]
      · exact hs
      · rintro rfl
        rw [ha] at hs
        cases hs
        cases hy

theorem AtL.without {a : Addr} {y : HO} (ha : R a = some y) (hy : isLD y = true) {n : Nat} {vs : List V} {ds : List D} (h : ds.all (D.deepT n) = true) (t : AtL K R vs ds) : AtL K (without R a) vs ds :=
  t.imp fun v d hm => at_without ha hy n (List.all_eq_true.mp h d hm)
theorem AtD.without {a : Addr} {y : HO} (ha : R a = some y) (hy : isLD y = true) {n : Nat} {vs : List (Key × V)} {ds : List (Key × D)} (h : (ds.all fun p => D.deepT n p.2) = true) (t : AtD K R vs ds) : AtD K (without R a) vs ds :=
  t.imp fun v d hm => at_without ha hy n (by
    obtain ⟨p, hp, rfl⟩ := List.mem_map.mp hm
    exact List.all_eq_true.mp h p hp)
/-- a step of a call whose result is a new object that is kept apart -/
theorem Rep.goW (r : Rep K G B env σ R H) (s : Step G R H R' H') {a : Addr} (h : H a = none) : Rep K G B env σ (without R' a) H' where
  sub0 := r.sub0
  step := {
    same := fun b x e => by
      rw [without_ne]
      · exact (r.step.trans s).same b x e
      · rintro rfl
        rw [r.sub0.none (r.fresh h)] at e
        cases e
    sub := fun b x e => by
      by_cases hb : b = a
      · subst hb
        rw [without_same] at e
        cases e
      · rw [without_ne hb] at e
        exact s.sub b x e
    kept := (r.step.trans s).kept
    out := fun b y e n => by
      by_cases hb : b = a
      · subst hb
        exact without_same
      · rw [without_ne hb]
        exact (r.step.trans s).out b y e n }
  len := r.len
  dist := r.dist
  pr := fun q hq => by
    obtain ⟨h1, h2, h3, h4⟩ := (r.go s).pr q hq
    exact ⟨h1, by rw [without_ne (r.nopr h q hq)]; exact h2, h3, h4⟩
  slots := fun i sl q => by
    have same : Same R (without R' a) := fun b x e => by
      rw [without_ne]
      · exact s.same b x e
      · rintro rfl
        rw [r.sub.none h] at e
        cases e
    have := r.slots i sl q
    cases sl with
    | u => trivial
    | p d =>
      obtain ⟨v, h1, h2⟩ := this
      exact ⟨v, h1, h2.same same⟩
    | mu d =>
      obtain ⟨b, y, h1, h2, h3, h4, h5⟩ := this
      have hb : b ≠ a := ne_of_none h4 h
      exact ⟨b, y, h1, h2, by rw [without_ne hb]; exact s.out b y h4 h3, s.kept b y h4 (fun φ z => by rw [h3] at z; cases z), h5.same same⟩
theorem Rep.sameW (r : Rep K G B env σ R H) (s : Step G R H R' H') {a : Addr} (h : H a = none) : Same R (without R' a) := fun b x e => by
  rw [without_ne]
  · exact s.same b x e
  · rintro rfl
    rw [r.sub.none h] at e
    cases e
/-- a call whose result is a new list or dict of plain things, kept as one's own -/
theorem ve_callO {α : Type} {args : α → List D} {pre : α → Prop} {post : α → D → Prop} {rs : α → Addr → Prop} {E : XK} {X : Addr → Prop} {t : TA} (L : Lets G B E X)
    (h : VA K G B t env fun xs => ∃ x, xs = (args x).map XV.p ∧ pre x ∧ (∀ C, rs x C → X C) ∧ ∀ d, post x d → D.flat d = true ∧ ((∃ ds, d = .lst ds) ∨ ∃ ds, d = .dct ds) ∧ Q (.o d)) : VE K G B (tCall (SpA K G true args pre post rs) [] E t) env Q := fun σ R H rp Qh k =>
  h σ R H rp _ fun vs R1 H1 xs r1 s1 hv _ ⟨x, e, hp, hr, q⟩ => by
    subst e
    rw [List.append_nil]
    refine ⟨R1, x, r1.sub, atL_of hv, hp, fun v R' H' d s ha hf hd => ?_, fun C R' H' s hc => L C R' H' (r1.step.trans s) (hr C hc)⟩
    obtain ⟨a, rfl, hn, hz⟩ := hf rfl
    obtain ⟨fl, ld, q⟩ := q d hd
    refine k (.ref a) (VL.without R' a) H' (.o d) (r1.goW s hn) (s1.trans (r1.sameW s hn)) ?_ q
    rcases ld with ⟨ds, rfl⟩ | ⟨ds, rfl⟩
    · cases ha with
      | lst h1 h2 => exact ⟨a, _, rfl, r1.fresh hn, without_same, s.sub.of h1 (fun φ z => by cases z), AtL.without h1 rfl fl h2, r1.noslot hn, r1.nopr hn⟩
    · cases ha with
      | @dct _ xs _ h1 h2 => exact ⟨a, _, rfl, r1.fresh hn, without_same, s.sub.of h1 (fun φ z => by cases z), AtD.without h1 rfl fl h2, r1.noslot hn, r1.nopr hn⟩

/-! ### slots -/
theorem Rep.set (r : Rep K G B env σ R H) {i : Nat} {sl : Slot} {v : V} (hi : i < env.length) (h : SlotAt K B R H (σ.set i (some v)) i sl)
    (hm : ∀ d, sl = .mu d → (∀ (j : Nat) e, env[j]? = some (.mu e) → σ[j]? ≠ some (some v)) ∧ ∀ q ∈ B.pr, v ≠ .ref q.1) : Rep K G B (env.set i sl) (σ.set i (some v)) R H where
  sub0 := r.sub0
  step := r.step
  len := by rw [List.length_set, List.length_set]; exact r.len
  slots := fun j s q => by
    by_cases e : i = j
    · subst e
      rw [List.getElem?_set_self hi] at q
      cases q
      exact h
    · rw [List.getElem?_set_ne e] at q
      have := r.slots j s q
      cases s with
      | u => trivial
      | p d =>
        obtain ⟨w, h1, h2⟩ := this
        exact ⟨w, by rw [List.getElem?_set_ne e]; exact h1, h2⟩
      | mu d =>
        obtain ⟨a, y, h1, h2⟩ := this
        exact ⟨a, y, by rw [List.getElem?_set_ne e]; exact h1, h2⟩
  dist := fun j k d e hjk hj hk => by
    have hs : i < σ.length := by rw [r.len]; exact hi
    by_cases ej : i = j
    · subst ej
      rw [List.getElem?_set_self hi] at hj
      have ek : ¬ i = k := hjk
      rw [List.getElem?_set_ne ek] at hk
      rw [List.getElem?_set_self hs, List.getElem?_set_ne ek]
      cases hj
      exact fun z => (hm d rfl).1 k e hk z.symm
    · rw [List.getElem?_set_ne ej] at hj
      by_cases ek : i = k
      · subst ek
        rw [List.getElem?_set_self hi] at hk
        rw [List.getElem?_set_self hs, List.getElem?_set_ne ej]
        cases hk
        exact (hm e rfl).1 j d hj
      · rw [List.getElem?_set_ne ek] at hk
        rw [List.getElem?_set_ne ek, List.getElem?_set_ne ej]
        exact r.dist j k d e hjk hj hk
  pr := fun q hq => by
    obtain ⟨h1, h2, h3, h4⟩ := r.pr q hq
    refine ⟨h1, h2, h3, fun j e hj => ?_⟩
    have hs : i < σ.length := by rw [r.len]; exact hi
    by_cases ej : i = j
    · subst ej
      rw [List.getElem?_set_self hi] at hj
      cases hj
      rw [List.getElem?_set_self hs]
      exact fun z => (hm e rfl).2 q hq (by cases z; rfl)
    · rw [List.getElem?_set_ne ej] at hj ⊢
      exact h4 j e hj
theorem Rep.ilt (r : Rep K G B env σ R H) {i : Nat} (hi : i < env.length) : i < σ.length := by rw [r.len]; exact hi

/-! ### targets -/
variable {nx : Vn → Prop} {rt : XV → Prop} {bk ct : Vn → Prop} {Qe : Vn → Prop}
theorem vg_p {i : Nat} {d : D} (hi : i < env.length) (q : Qe (env.set i (.p d))) : VG K G B (gName i) (.p d) env Qe := fun σ R H r v hv Qh k =>
  k _ _ R H (r.set (sl := .p d) hi ⟨v, List.getElem?_set_self (r.ilt hi), hv⟩ fun d z => by cases z) (Same.refl R) q
theorem vg_o {i : Nat} {d : D} (hi : i < env.length) (q : Qe (env.set i (.mu d))) : VG K G B (gName i) (.o d) env Qe := fun σ R H r v hv Qh k => by
  obtain ⟨a, y, rfl, h1, h2, h3, h4, h5, h6⟩ := hv
  exact k _ _ R H (r.set (sl := .mu d) hi ⟨a, y, List.getElem?_set_self (r.ilt hi), h1, h2, h3, h4⟩ fun d z => ⟨h5, fun q hq w => h6 q hq (by cases w; rfl)⟩) (Same.refl R) q
def VGs (K : PySem.W.Frag) (G : List Int → Prop) (B : Bs) (g : TGs) (ds : List D) (env : Vn) (Q : Vn → Prop) : Prop := ∀ σ R H, Rep K G B env σ R H → ∀ vs, AtL K R vs ds → ∀ Qh : L2.St → Hp → Prop,
  (∀ env' σ' R' H', Rep K G B env' σ' R' H' → Same R R' → Q env' → Qh σ' H') → g vs σ H Qh
theorem vgs_nil (q : Qe env) : VGs K G B gNil [] env Qe := fun σ R H r vs hv Qh k => by
  cases hv
  exact ⟨rfl, k _ _ _ _ r (Same.refl R) q⟩
theorem vgs_cons {t : TG} {u : TGs} {d : D} {ds : List D} (h : VG K G B t (.p d) env fun e => VGs K G B u ds e Qe) : VGs K G B (gCons t u) (d :: ds) env Qe := fun σ R H r vs hv Qh k => by
  cases hv with
  | @cons v vs _ _ h1 h2 =>
    exact ⟨v, vs, rfl, h σ R H r v h1 _ fun e' σ' R' H' r' s' q => q σ' R' H' r' vs (h2.same s') Qh fun e2 σ2 R2 H2 r2 s2 q2 => k e2 σ2 R2 H2 r2 (s'.trans s2) q2⟩
theorem vg_tup {n : Nat} {t : TGs} {ds : List D} (hn : ds.length = n) (h : VGs K G B t ds env Qe) : VG K G B (gTup K n t) (.p (.tup ds)) env Qe := fun σ R H r v hv Qh k => by
  cases hv with
  | @tup a xs _ h1 h2 => exact ⟨a, xs, rfl, r.sub.t h1, by rw [h2.len]; exact hn, h σ R H r xs h2 Qh k⟩
theorem vg_lst {n : Nat} {t : TGs} {ds : List D} (hn : ds.length = n) (h : VGs K G B t ds env Qe) : VG K G B (gUnl K n t) (.p (.lst ds)) env Qe := fun σ R H r v hv Qh k => by
  cases hv with
  | @lst a xs _ h1 h2 => exact ⟨a, xs, rfl, r.sub.l (.inl (.inl h1)), by rw [h2.len]; exact hn, h σ R H r xs h2 Qh k⟩

/-! ### statements -/
theorem vs_next (q : nx env) : VS K G B tNext env nx rt bk ct := fun σ R H r Z kn _ _ _ => kn env σ R H r (Same.refl R) q
theorem vs_break (q : bk env) : VS K G B tBreak env nx rt bk ct := fun σ R H r Z _ _ kb _ => kb env σ R H r (Same.refl R) q
theorem vs_cont (q : ct env) : VS K G B tCont env nx rt bk ct := fun σ R H r Z _ _ _ kc => kc env σ R H r (Same.refl R) q
theorem vs_seq {t u : TS} (h : VS K G B t env (fun e => VS K G B u e nx rt bk ct) rt bk ct) : VS K G B (tSeq t u) env nx rt bk ct := fun σ R H r Z kn kr kb kc =>
  h σ R H r { Z with nx := u Z } (fun e' σ' R' H' r' s' q => q σ' R' H' r' Z (fun e2 σ2 R2 H2 r2 s2 q2 => kn e2 σ2 R2 H2 r2 (s'.trans s2) q2) (fun v e2 σ2 R2 H2 x r2 s2 hv q2 => kr v e2 σ2 R2 H2 x r2 (s'.trans s2) hv q2)
    (fun e2 σ2 R2 H2 r2 s2 q2 => kb e2 σ2 R2 H2 r2 (s'.trans s2) q2) (fun e2 σ2 R2 H2 r2 s2 q2 => kc e2 σ2 R2 H2 r2 (s'.trans s2) q2)) kr kb kc
theorem vs_mid {t u : TS} (M : Vn → Prop) (h : VS K G B t env M rt bk ct) (h2 : ∀ e, M e → VS K G B u e nx rt bk ct) : VS K G B (tSeq t u) env nx rt bk ct :=
  vs_seq fun σ R H r Z kn kr kb kc => h σ R H r Z (fun e σ' R' H' r' s' q => kn e σ' R' H' r' s' (h2 e q)) kr kb kc
theorem vs_ret {te : TE} (h : VE K G B te env rt) : VS K G B (tRet te) env nx rt bk ct := fun σ R H r Z _ kr _ _ => h σ R H r _ fun v R' H' x r' s' hv q => kr v env σ R' H' x r' s' hv q
theorem vs_retN (q : rt (.p .non)) : VS K G B tRetN env nx rt bk ct := fun σ R H r Z _ kr _ _ => kr _ env σ R H (.p .non) r (Same.refl R) At.non q
theorem vs_expr {te : TE} (h : VE K G B te env fun _ => nx env) : VS K G B (tDrop te) env nx rt bk ct := fun σ R H r Z kn _ _ _ => h σ R H r _ fun v R' H' x r' s' hv q => kn env σ R' H' r' s' q
theorem vs_if {c : TT} {t u : TS} (h : VT K G B c env fun b => (b = true → VS K G B t env nx rt bk ct) ∧ (b = false → VS K G B u env nx rt bk ct)) : VS K G B (tIfS c t u) env nx rt bk ct := fun σ R H r Z kn kr kb kc =>
  h σ R H r _ fun b R' H' r' s' q => by
    have kn' : ∀ env' σ' R'' H', Rep K G B env' σ' R'' H' → Same R' R'' → nx env' → Z.nx σ' H' := fun e σ2 R2 H2 r2 s2 q2 => kn e σ2 R2 H2 r2 (s'.trans s2) q2
    have kr' : ∀ v env' σ' R'' H' x, Rep K G B env' σ' R'' H' → Same R' R'' → VAt K B env' σ' R'' H' v x → rt x → Z.rt v H' := fun v e σ2 R2 H2 x r2 s2 hv q2 => kr v e σ2 R2 H2 x r2 (s'.trans s2) hv q2
    have kb' : ∀ env' σ' R'' H', Rep K G B env' σ' R'' H' → Same R' R'' → bk env' → Z.bk σ' H' := fun e σ2 R2 H2 r2 s2 q2 => kb e σ2 R2 H2 r2 (s'.trans s2) q2
    have kc' : ∀ env' σ' R'' H', Rep K G B env' σ' R'' H' → Same R' R'' → ct env' → Z.ct σ' H' := fun e σ2 R2 H2 r2 s2 q2 => kc e σ2 R2 H2 r2 (s'.trans s2) q2
    cases b with
    | true =>
      show t Z σ H'
      exact q.1 rfl σ R' H' r' Z kn' kr' kb' kc'
    | false =>
      show u Z σ H'
      exact q.2 rfl σ R' H' r' Z kn' kr' kb' kc'
theorem vs_asg {te : TE} {g : TG} (h : VE K G B te env fun x => VG K G B g x env nx) : VS K G B (tAsg te g) env nx rt bk ct := fun σ R H r Z kn _ _ _ =>
  h σ R H r _ fun v R' H' x r' s' hv q => q σ R' H' r' v hv _ fun e2 σ2 R2 H2 r2 s2 q2 => kn e2 σ2 R2 H2 r2 (s'.trans s2) q2
theorem vs_aug {i : Nat} {te : TE} {ti : TIp} {d : D} (hd : env[i]? = some (.p d)) (h : VE K G B te env fun y => y.fz fun y => VO K G B ti env (.p d) y fun z => VG K G B (gName i) z env nx) : VS K G B (tAug i te ti) env nx rt bk ct := fun σ R H r Z kn _ _ _ => by
  obtain ⟨x, h1, h2⟩ := r.slots i _ hd
  refine ⟨x, h1, h σ R H r _ fun w R1 H1 y r1 s1 hw q1 => ?_⟩
  obtain ⟨R2, y', r2, s2, hw2, ho, q2⟩ := hw.fz r1 q1
  exact q2 σ R2 H1 r2 x w (At.same (s1.trans s2) h2) hw2 _ fun z R3 H3 x3 r3 s3 hz q3 => q3 σ R3 H3 r3 z hz _ fun e4 σ4 R4 H4 r4 s4 q4 => kn e4 σ4 R4 H4 r4 (((s1.trans s2).trans s3).trans s4) q4

/-! ### tests -/
variable {Qb : Bool → Prop}
theorem vt_B {te : TE} (h : VE K G B te env fun x => ∃ b, x = .p (.bl b) ∧ Qb b) : VT K G B (tB te) env Qb := fun σ R H r Qh k => h σ R H r _ fun v R' H' x r' s' hv ⟨b, e, q⟩ => by
  subst e
  cases hv
  exact ⟨b, rfl, k b R' H' r' s' q⟩
theorem vt_test {te : TE} (h : VE K G B te env fun x => ∃ b, x = .p (.bl b) ∧ Qb b) : VT K G B (tTest te) env Qb := fun σ R H r Qh k => h σ R H r _ fun v R' H' x r' s' hv ⟨b, e, q⟩ => by
  subst e
  cases hv
  exact ⟨b, rfl, k b R' H' r' s' q⟩
theorem vt_and {t u : TT} (h : VT K G B t env fun b => (b = true → VT K G B u env Qb) ∧ (b = false → Qb false)) : VT K G B (tAnd t u) env Qb := fun σ R H r Qh k => h σ R H r _ fun b R' H' r' s' q => by
  cases b with
  | true =>
    show u σ H' Qh
    exact q.1 rfl σ R' H' r' Qh fun c R2 H2 r2 s2 q2 => k c R2 H2 r2 (s'.trans s2) q2
  | false =>
    show Qh false H'
    exact k false R' H' r' s' (q.2 rfl)
theorem vt_or {t u : TT} (h : VT K G B t env fun b => (b = true → Qb true) ∧ (b = false → VT K G B u env Qb)) : VT K G B (tOr t u) env Qb := fun σ R H r Qh k => h σ R H r _ fun b R' H' r' s' q => by
  cases b with
  | true =>
    show Qh true H'
    exact k true R' H' r' s' (q.1 rfl)
  | false =>
    show u σ H' Qh
    exact q.2 rfl σ R' H' r' Qh fun c R2 H2 r2 s2 q2 => k c R2 H2 r2 (s'.trans s2) q2
theorem vt_not {t : TT} (h : VT K G B t env fun b => Qb (!b)) : VT K G B (tNot t) env Qb := fun σ R H r Qh k => h σ R H r _ fun b R' H' r' s' q => k (!b) R' H' r' s' q
theorem ve_andV {ta tb : TE} (h : VE K G B ta env fun x => ∃ b, x = .p (.bl b) ∧ (b = true → VE K G B tb env Q) ∧ (b = false → Q (.p (.bl false)))) : VE K G B (tAndV ta tb) env Q := fun σ R H r Qh k => h σ R H r _ fun v R' H' x r' s' hv ⟨b, e, q1, q2⟩ => by
  subst e
  cases hv
  refine ⟨b, rfl, ?_⟩
  cases b with
  | true =>
    show tb σ H' Qh
    exact q1 rfl σ R' H' r' Qh fun z R2 H2 x2 r2 s2 hz q => k z R2 H2 x2 r2 (s'.trans s2) hz q
  | false =>
    show Qh (.bl false) H'
    exact k _ R' H' (.p (.bl false)) r' s' (At.bl false) (q2 rfl)
theorem ve_orV {ta tb : TE} (h : VE K G B ta env fun x => ∃ b, x = .p (.bl b) ∧ (b = true → Q (.p (.bl true))) ∧ (b = false → VE K G B tb env Q)) : VE K G B (tOrV ta tb) env Q := fun σ R H r Qh k => h σ R H r _ fun v R' H' x r' s' hv ⟨b, e, q1, q2⟩ => by
  subst e
  cases hv
  refine ⟨b, rfl, ?_⟩
  cases b with
  | true =>
    show Qh (.bl true) H'
    exact k _ R' H' (.p (.bl true)) r' s' (At.bl true) (q1 rfl)
  | false =>
    show tb σ H' Qh
    exact q2 rfl σ R' H' r' Qh fun z R2 H2 x2 r2 s2 hz q => k z R2 H2 x2 r2 (s'.trans s2) hz q
theorem ve_notV {ta : TE} (h : VE K G B ta env fun x => ∃ b, x = .p (.bl b) ∧ Q (.p (.bl (!b)))) : VE K G B (tNotV ta) env Q := fun σ R H r Qh k => h σ R H r _ fun v R' H' x r' s' hv ⟨b, e, q⟩ => by
  subst e
  cases hv
  exact ⟨b, rfl, k _ R' H' (.p (.bl (!b))) r' s' (At.bl _) q⟩
theorem ve_if {t : TT} {ta tb : TE} (h : VT K G B t env fun b => (b = true → VE K G B ta env Q) ∧ (b = false → VE K G B tb env Q)) : VE K G B (tIf t ta tb) env Q := fun σ R H r Qh k => h σ R H r _ fun b R' H' r' s' q => by
  cases b with
  | true =>
    show ta σ H' Qh
    exact q.1 rfl σ R' H' r' Qh fun z R2 H2 x2 r2 s2 hz q => k z R2 H2 x2 r2 (s'.trans s2) hz q
  | false =>
    show tb σ H' Qh
    exact q.2 rfl σ R' H' r' Qh fun z R2 H2 x2 r2 s2 hz q => k z R2 H2 x2 r2 (s'.trans s2) hz q

/-! ### own objects change -/
/-- the object of an own slot changes -/
theorem Rep.mut (r : Rep K G B env σ R H) {i : Nat} {d d' : D} {a : Addr} {y : HO} (hd : env[i]? = some (.mu d)) (ha : σ[i]? = some (some (.ref a))) (hm : MAt K R y d') : Rep K G B (env.set i (.mu d')) σ R (upd H a y) := by
  obtain ⟨a', y0, h1, h2, h3, h4, h5⟩ := r.slots i _ hd
  have ea : a' = a := by
    rw [h1] at ha
    cases ha
    rfl
  subst ea
  have hi : i < env.length := (List.getElem?_eq_some_iff.mp hd).1
  exact {
    sub0 := r.sub0
    step := {
      same := r.step.same
      sub := fun b x e => by
        have hb : b ≠ a' := ne_of_none e h3
        have := r.step.sub b x e
        cases x <;> simp only [SubAt] at this ⊢ <;> first
          | (rw [upd_ne hb]; exact this; done)
          | (obtain ⟨ns, q, g⟩ := this; exact ⟨ns, by rw [upd_ne hb]; exact q, g⟩)
      kept := fun b x e n => by
        rw [upd_ne (ne_of_none e h2)]
        exact r.step.kept b x e n
      out := r.step.out }
    len := by rw [List.length_set]; exact r.len
    slots := fun j s q => by
      by_cases e : i = j
      · subst e
        rw [List.getElem?_set_self hi] at q
        cases q
        exact ⟨a', y, ha, h2, h3, upd_same, hm⟩
      · rw [List.getElem?_set_ne e] at q
        have := r.slots j s q
        cases s with
        | u => trivial
        | p d => exact this
        | mu d =>
          obtain ⟨b, z, g1, g2, g3, g4, g5⟩ := this
          have hb : b ≠ a' := fun w => by
            subst w
            exact r.dist i j _ _ e hd q (h1.trans g1.symm)
          exact ⟨b, z, g1, g2, g3, by rw [upd_ne hb]; exact g4, g5⟩
    dist := fun j k d1 e1 hjk hj hk => by
      have f : ∀ (j : Nat) d1, (env.set i (.mu d'))[j]? = some (.mu d1) → ∃ d2, env[j]? = some (.mu d2) := fun j d1 hj => by
        by_cases e : i = j
        · subst e
          exact ⟨_, hd⟩
        · rw [List.getElem?_set_ne e] at hj
          exact ⟨_, hj⟩
      obtain ⟨d2, g1⟩ := f j d1 hj
      obtain ⟨e2, g2⟩ := f k e1 hk
      exact r.dist j k d2 e2 hjk g1 g2
    pr := fun q hq => by
      obtain ⟨g1, g2, g3, g4⟩ := r.pr q hq
      have hb : q.1 ≠ a' := fun w => by
        subst w
        exact g4 i _ hd h1
      refine ⟨g1, g2, by rw [upd_ne hb]; exact g3, fun j e hj => ?_⟩
      by_cases e' : i = j
      · subst e'
        exact g4 i _ hd
      · rw [List.getElem?_set_ne e'] at hj
        exact g4 j e hj }
/-- an own object of nobody's changes -/
theorem Rep.mutA (r : Rep K G B env σ R H) {a : Addr} {y : HO} (h0 : B.H a = none) (hn : R a = none) (hs : ∀ (j : Nat) e, env[j]? = some (.mu e) → σ[j]? ≠ some (some (.ref a))) (hp : ∀ q ∈ B.pr, q.1 ≠ a) : Rep K G B env σ R (upd H a y) where
  sub0 := r.sub0
  step := {
    same := r.step.same
    sub := fun b x e => by
      have hb : b ≠ a := ne_of_none e hn
      have := r.step.sub b x e
      cases x <;> simp only [SubAt] at this ⊢ <;> first
        | (rw [upd_ne hb]; exact this; done)
        | (obtain ⟨ns, q, g⟩ := this; exact ⟨ns, by rw [upd_ne hb]; exact q, g⟩)
    kept := fun b x e n => by
      rw [upd_ne (ne_of_none e h0)]
      exact r.step.kept b x e n
    out := r.step.out }
  len := r.len
  dist := r.dist
  pr := fun q hq => by
    obtain ⟨g1, g2, g3, g4⟩ := r.pr q hq
    exact ⟨g1, g2, by rw [upd_ne (hp q hq)]; exact g3, g4⟩
  slots := fun j s q => by
    have := r.slots j s q
    cases s with
    | u => trivial
    | p d => exact this
    | mu d =>
      obtain ⟨b, z, g1, g2, g3, g4, g5⟩ := this
      have hb : b ≠ a := fun w => by
        subst w
        exact hs j d q g1
      exact ⟨b, z, g1, g2, g3, by rw [upd_ne hb]; exact g4, g5⟩
/-- protecting, and back -/
theorem Rep.guard (r : Rep K G B env σ R H) {a : Addr} {y : HO} (h0 : B.H a = none) (hn : R a = none) (hy : H a = some y) (hs : ∀ (j : Nat) e, env[j]? = some (.mu e) → σ[j]? ≠ some (some (.ref a))) : Rep K G { B with pr := (a, y) :: B.pr } env σ R H where
  sub0 := r.sub0
  step := r.step
  len := r.len
  dist := r.dist
  slots := r.slots
  pr := fun q hq => by
    rcases List.mem_cons.mp hq with rfl | hq
    · exact ⟨h0, hn, hy, hs⟩
    · exact r.pr q hq
theorem Rep.unguard {q : Addr × HO} (r : Rep K G { B with pr := q :: B.pr } env σ R H) : Rep K G B env σ R H where
  sub0 := r.sub0
  step := r.step
  len := r.len
  dist := r.dist
  slots := r.slots
  pr := fun p hp => r.pr p (List.mem_cons_of_mem _ hp)
theorem Rep.guarded {a : Addr} {y : HO} (r : Rep K G { B with pr := (a, y) :: B.pr } env σ R H) : B.H a = none ∧ R a = none ∧ H a = some y ∧ ∀ (j : Nat) e, env[j]? = some (.mu e) → σ[j]? ≠ some (some (.ref a)) := r.pr _ List.mem_cons_self

/-! ### what is walked -/
/-- the walk J tells the items one by one, as plain things -/
structure Wk (K : PySem.W.Frag) (G : List Int → Prop) (B : Bs) (R : Hp) (J : It) (items : List D) : Prop where
  go : ∀ (B : Bs) env σ R' H', Rep K G B env σ R' H' → Same R R' → ∀ i d, items[i]? = some d → J.go i H' ∧ ∀ v H2, J.yld i H' v H2 → ∃ R2, Rep K G B env σ R2 H2 ∧ Same R' R2 ∧ At K R2 v d
  stop : ∀ (B : Bs) env σ R' H', Rep K G B env σ R' H' → Same R R' → J.stop items.length H'
def VI (K : PySem.W.Frag) (G : List Int → Prop) (B : Bs) (wi : TI) (env : Vn) (Q : List D → Prop) : Prop := ∀ σ R H, Rep K G B env σ R H → ∀ Qh : It → Hp → Prop,
  (∀ J R' H' items, Rep K G B env σ R' H' → Same R R' → Wk K G B R' J items → Q items → Qh J H') → wi σ H Qh
theorem vs_for {wi : TI} {g : TG} {tb : TS} (h : VI K G B wi env fun items => ∃ Iv : Nat → Vn → Prop, Iv 0 env ∧
    (∀ i d e, items[i]? = some d → Iv i e → VG K G B g (.p d) e fun e' => VS K G B tb e' (Iv (i + 1)) rt nx (Iv (i + 1))) ∧ (∀ e, Iv items.length e → nx e)) : VS K G B (tFor wi g tb) env nx rt bk ct := fun σ R H r Z kn kr kb kc =>
  h σ R H r _ fun J R1 H1 items r1 s1 wk ⟨Iv, h0, hs, he⟩ => by
    refine ⟨fun i m σ' H' => i + m = items.length ∧ ∃ e R', Rep K G B e σ' R' H' ∧ Same R1 R' ∧ Iv i e, ⟨items.length, Nat.zero_add _, env, R1, r1, Same.refl _, h0⟩, ?_⟩
    rintro i m σ' H' ⟨hi, e, R', r', s', q⟩
    by_cases hm : m = 0
    · subst hm
      have ei : i = items.length := hi
      subst ei
      exact .inl ⟨wk.stop B e σ' R' H' r' s', kn e σ' R' H' r' (s1.trans s') (he e q)⟩
    · have hlt : i < items.length := by omega
      obtain ⟨g1, g2⟩ := wk.go B e σ' R' H' r' s' i items[i] (List.getElem?_eq_getElem hlt)
      refine .inr ⟨g1, fun σ2 H2 => ∃ e2 R2, Rep K G B e2 σ2 R2 H2 ∧ Same R1 R2 ∧ Iv (i + 1) e2, fun σ2 H2 ⟨e2, R2, a, b, c⟩ => ⟨m - 1, by omega, by omega, e2, R2, a, b, c⟩, fun v H2 hy => ?_⟩
      obtain ⟨R2, r2, s2, hv⟩ := g2 v H2 hy
      refine hs i items[i] e (List.getElem?_eq_getElem hlt) q σ' R2 H2 r2 v hv _ fun e3 σ3 R3 H3 r3 s3 q3 => ?_
      have st : Same R R3 := ((s1.trans s').trans s2).trans s3
      have st1 : Same R1 R3 := (s'.trans s2).trans s3
      exact q3 σ3 R3 H3 r3 _ (fun e4 σ4 R4 H4 r4 s4 q4 => ⟨e4, R4, r4, st1.trans s4, q4⟩) (fun v e4 σ4 R4 H4 x r4 s4 hv4 q4 => kr v e4 σ4 R4 H4 x r4 (st.trans s4) hv4 q4)
        (fun e4 σ4 R4 H4 r4 s4 q4 => kn e4 σ4 R4 H4 r4 (st.trans s4) q4) (fun e4 σ4 R4 H4 r4 s4 q4 => ⟨e4, R4, r4, st1.trans s4, q4⟩)
theorem vs_while {c : TT} {tb : TS} (Iv : Nat → Vn → Prop) (h0 : ∃ m, Iv m env) (hs : ∀ m e, Iv m e → VT K G B c e fun b => (b = true → VS K G B tb e (fun e' => ∃ m', m' < m ∧ Iv m' e') rt nx (fun e' => ∃ m', m' < m ∧ Iv m' e')) ∧ (b = false → nx e)) :
    VS K G B (tWhile c tb) env nx rt bk ct := fun σ R H r Z kn kr kb kc => by
  obtain ⟨m0, h0⟩ := h0
  refine ⟨fun m σ' H' => ∃ e R', Rep K G B e σ' R' H' ∧ Same R R' ∧ Iv m e, ⟨m0, env, R, r, Same.refl R, h0⟩, ?_⟩
  rintro m σ' H' ⟨e, R', r', s', q⟩
  refine hs m e q σ' R' H' r' _ fun b R2 H2 r2 s2 q2 => ?_
  cases b with
  | true =>
    refine iteT ⟨fun σ3 H3 => ∃ e3 R3, Rep K G B e3 σ3 R3 H3 ∧ Same R R3 ∧ ∃ m', m' < m ∧ Iv m' e3, fun σ3 H3 ⟨e3, R3, a, b, m', hm, c⟩ => ⟨m', hm, e3, R3, a, b, c⟩, ?_⟩
    have st : Same R R2 := s'.trans s2
    exact q2.1 rfl σ' R2 H2 r2 _ (fun e4 σ4 R4 H4 r4 s4 q4 => ⟨e4, R4, r4, st.trans s4, q4⟩) (fun v e4 σ4 R4 H4 x r4 s4 hv4 q4 => kr v e4 σ4 R4 H4 x r4 (st.trans s4) hv4 q4)
        (fun e4 σ4 R4 H4 r4 s4 q4 => kn e4 σ4 R4 H4 r4 (st.trans s4) q4) (fun e4 σ4 R4 H4 r4 s4 q4 => ⟨e4, R4, r4, st.trans s4, q4⟩)
  | false => exact iteF (kn e σ' R2 H2 r2 (s'.trans s2) (q2.2 rfl))
/-- lists, tuples, ranges -/
theorem vi_list {tl : TE} {Ql : List D → Prop} (h : VE K G B tl env fun x => x.fz fun x => (∃ ds, (x = .p (.lst ds) ∨ x = .p (.ro ds)) ∧ Ql ds)) : VI K G B (iList K tl) env Ql := fun σ R H r Qh k =>
  h σ R H r _ fun v R1 H1 x r1 s1 hv q => by
    obtain ⟨R2, x', r2, s2, hv2, ho, ds, e, q2⟩ := hv.fz r1 q
    obtain ⟨a, xs, rfl, hl, ha⟩ : ∃ a xs, v = .ref a ∧ SqL K R2 a xs ∧ AtL K R2 xs ds := by
      rcases e with rfl | rfl
      · cases hv2 with
        | @lst a xs _ h1 h2 => exact ⟨a, xs, rfl, .inl (.inl h1), h2⟩
      · cases hv2 with
        | @ro a xs _ h1 h2 => exact ⟨a, xs, rfl, h1, h2⟩
    refine ⟨a, rfl, ⟨xs, r2.sub.l hl⟩, k _ R2 H1 ds r2 (s1.trans s2) ⟨?_, ?_⟩ q2⟩
    · intro B' e' σ' R' H' r' s' i d hi
      obtain ⟨v, hv, hd⟩ := ha.get hi
      have hL := r'.sub.l (same_l s' hl)
      refine ⟨⟨xs, v, hL, hv⟩, ?_⟩
      rintro w H3 ⟨rfl, hw⟩
      have := hw xs hL
      rw [hv] at this
      cases this
      exact ⟨R', r', Same.refl _, hd.same s'⟩
    · intro B' e' σ' R' H' r' s'
      exact ⟨xs, r'.sub.l (same_l s' hl), by rw [ha.len]; exact Nat.le_refl _⟩
theorem vi_tup {tl : TE} {Ql : List D → Prop} (h : VE K G B tl env fun x => ∃ ds, x = .p (.tup ds) ∧ Ql ds) : VI K G B (iTup K tl) env Ql := fun σ R H r Qh k =>
  h σ R H r _ fun v R2 H1 x r2 s2 hv2 ⟨ds, e, q2⟩ => by
    subst e
    obtain ⟨a, xs, rfl, hl, ha⟩ : ∃ a xs, v = .ref a ∧ SqT K R2 a xs ∧ AtL K R2 xs ds := by
      cases hv2 with
      | @tup a xs _ h1 h2 => exact ⟨a, xs, rfl, h1, h2⟩
    refine ⟨a, rfl, ⟨xs, r2.sub.t hl⟩, k _ R2 H1 ds r2 s2 ⟨?_, ?_⟩ q2⟩
    · intro B' e' σ' R' H' r' s' i d hi
      obtain ⟨v, hv, hd⟩ := ha.get hi
      have hL := r'.sub.t (same_t s' hl)
      refine ⟨⟨xs, v, hL, hv⟩, ?_⟩
      rintro w H3 ⟨rfl, hw⟩
      have := hw xs hL
      rw [hv] at this
      cases this
      exact ⟨R', r', Same.refl _, hd.same s'⟩
    · intro B' e' σ' R' H' r' s'
      exact ⟨xs, r'.sub.t (same_t s' hl), by rw [ha.len]; exact Nat.le_refl _⟩
def rangeD (lo : Int) (n : Nat) : List D := (List.range n).map fun i => D.int (lo + (i : Nat))
theorem rangeD_len (lo : Int) (n : Nat) : (rangeD lo n).length = n := by
  unfold rangeD
  rw [List.length_map, List.length_range]
theorem rangeD_get {lo : Int} {n i : Nat} {d : D} (h : (rangeD lo n)[i]? = some d) : i < n ∧ d = .int (lo + (i : Nat)) := by
  unfold rangeD at h
  rw [List.getElem?_map] at h
  by_cases hi : i < n
  · rw [List.getElem?_range hi] at h
    cases h
    exact ⟨hi, rfl⟩
  · rw [List.getElem?_eq_none_iff.mpr (by rw [List.length_range]; omega)] at h
    cases h
theorem wk_range {lo : Int} {n : Nat} : Wk K G B R (Itr lo n) (rangeD lo n) where
  go := fun B e σ R' H' r s i d hi => by
    obtain ⟨h1, rfl⟩ := rangeD_get hi
    refine ⟨h1, ?_⟩
    rintro v H2 ⟨rfl, rfl⟩
    exact ⟨R', r, Same.refl _, .int _⟩
  stop := fun B e σ R' H' r s => by
    rw [rangeD_len]
    exact Nat.le_refl _
theorem vi_range1 {ta : TA} {Ql : List D → Prop} (h : VA K G B ta env fun xs => ∃ j : Int, xs = [.p (.int j)] ∧ (-(2 ^ 62) ≤ j ∧ j < 2 ^ 62) ∧ Ql (rangeD 0 j.toNat)) : VI K G B (iRng1 ta) env Ql := fun σ R H r Qh k =>
  h σ R H r _ fun vs R1 H1 xs r1 s1 hv _ ⟨j, e, hj, q⟩ => by
    subst e
    match vs, hv with
    | [v], hv =>
      cases hv.1
      exact ⟨j, rfl, hj.1, hj.2, k _ R1 H1 _ r1 s1 wk_range q⟩
theorem vi_range2 {ta : TA} {Ql : List D → Prop} (h : VA K G B ta env fun xs => ∃ i j : Int, xs = [.p (.int i), .p (.int j)] ∧ (-(2 ^ 62) ≤ i ∧ i < 2 ^ 62 ∧ -(2 ^ 62) ≤ j ∧ j < 2 ^ 62) ∧ Ql (rangeD i (j - i).toNat)) : VI K G B (iRng2 ta) env Ql := fun σ R H r Qh k =>
  h σ R H r _ fun vs R1 H1 xs r1 s1 hv _ ⟨i, j, e, hj, q⟩ => by
    subst e
    match vs, hv with
    | [v, w], hv =>
      cases hv.1
      cases hv.2.1
      exact ⟨i, j, rfl, hj, k _ R1 H1 _ r1 s1 wk_range q⟩

/-! ### a def -/
theorem rep_start {N : List Str} {vs : List V} {ds : List D} (s : Sub G R H) (h : AtL K R vs ds) (hn : ds.length ≤ N.length) : Rep K G ⟨R, H, []⟩ (ds.map Slot.p ++ List.replicate (N.length - ds.length) .u) (L2.start N vs) R H where
  sub0 := s
  step := Step.refl s
  len := by
    unfold L2.start
    rw [List.length_append, List.length_append, List.length_map, List.length_map, List.length_replicate, List.length_replicate, h.len]
  pr := fun _ h => by cases h
  slots := fun i sl q => by
    by_cases hi : i < ds.length
    · rw [List.getElem?_append_left (by rw [List.length_map]; exact hi), List.getElem?_map, List.getElem?_eq_getElem hi] at q
      cases q
      obtain ⟨v, h1, h2⟩ := h.get (List.getElem?_eq_getElem hi)
      refine ⟨v, ?_, h2⟩
      unfold L2.start
      rw [List.getElem?_append_left (by rw [List.length_map, h.len]; exact hi), List.getElem?_map, h1]
      rfl
    · rw [List.getElem?_append_right (by rw [List.length_map]; omega), List.getElem?_replicate] at q
      split at q
      · cases q
        trivial
      · cases q
  dist := fun i j d e _ q _ => by
    by_cases hi : i < ds.length
    · rw [List.getElem?_append_left (by rw [List.length_map]; exact hi), List.getElem?_map, List.getElem?_eq_getElem hi] at q
      cases q
    · rw [List.getElem?_append_right (by rw [List.length_map]; omega), List.getElem?_replicate] at q
      split at q <;> cases q
/-- what a def hands back: a new object of its own, or a plain thing -/
def Rt (fr : Bool) (post : D → Prop) (x : XV) : Prop := match x with
  | .p d => fr = false ∧ post d
  | .o d => post d
  | .m _ d => post d
theorem run_def {α : Type} {fr : Bool} {args : α → List D} {pre : α → Prop} {post : α → D → Prop} {rs : α → Addr → Prop} {vs : List V} {Q : VK} {E : XK} {t : TS} {N : List Str}
    (hn : ∀ x, (args x).length ≤ N.length) {env0 : α → Vn} (he : ∀ x, (args x).map Slot.p ++ List.replicate (N.length - (args x).length) .u = env0 x)
    (h : ∀ B x, pre x → Lets G B E (rs x) → VS K G B t (env0 x) (fun _ => fr = false ∧ post x .non) (Rt fr (post x)) (fun _ => False) (fun _ => False))
    (hs : SpA K G fr args pre post rs vs H Q E) : t { nx := fun _ H' => Q .non H', rt := Q } (L2.start N vs) H := by
  obtain ⟨R, x, s, ha, hp, q, qe⟩ := hs
  have h := h ⟨R, H, []⟩ x hp (fun C R' H' st hc => qe C R' H' st hc)
  rw [← he x] at h
  refine h _ R H (rep_start s ha (hn x)) _ ?_ ?_ ?_ ?_
  · intro e σ' R' H' r _ ⟨hf, hq⟩
    exact q .non R' H' .non r.step .non (fun z => by rw [hf] at z; cases z) hq
  · intro v e σ' R' H' y r _ hv hq
    cases y with
    | p d => exact q v R' H' d r.step hv (fun z => by rw [hq.1] at z; cases z) hq.2
    | o d =>
      obtain ⟨a, y, rfl, h0, hn, hy, hm, h5, h6⟩ := hv
      have r2 := r.take hy (mat_ne hm) h0 hn h5 h6
      exact q _ _ H' d r2.step (At.of_mat hm hn) (fun _ => ⟨a, rfl, h0, fun o u z => by
        rw [upd_same] at z
        cases z
        cases d <;> exact hm.elim⟩) hq
    | m i d =>
      obtain ⟨h1, h2⟩ := hv
      obtain ⟨a, y, g1, g2, g3, g4, g5⟩ := r.slots i _ h1
      rw [g1] at h2
      cases h2
      -- the slot is given up
      refine q _ (upd R' a y) H' d ?_ (At.of_mat g5 g3) (fun _ => ⟨a, rfl, g2, fun o u z => by
        rw [upd_same] at z
        cases z
        cases d <;> exact g5.elim⟩) hq
      exact {
        same := r.step.same.trans (same_take g3)
        sub := sub_take r.sub g4 (mat_ne g5)
        kept := r.step.kept
        out := fun b z e n => by
          rw [upd_ne (ne_of_none e g2)]
          exact r.step.out b z e n }
  · intro _ _ _ _ _ _ q
    exact q.elim
  · intro _ _ _ _ _ _ q
    exact q.elim
theorem spA_len {α : Type} {fr : Bool} {args : α → List D} {pre : α → Prop} {post : α → D → Prop} {rs : α → Addr → Prop} {vs : List V} {Q : VK} {E : XK} {n : Nat} (hn : ∀ x, (args x).length = n) (h : SpA K G fr args pre post rs vs H Q E) : vs.length = n := by
  obtain ⟨R, x, _, ha, _⟩ := h
  rw [ha.len, hn]

/-! ### ghost steps: an own object becomes plain; a list of good ints is drawn from -/
theorem Rep.freeze (r : Rep K G B env σ R H) {i : Nat} {d : D} (hd : env[i]? = some (.mu d)) : ∃ R', Rep K G B (env.set i (.p d)) σ R' H ∧ Same R R' := by
  obtain ⟨a, y, h1, h2, h3, h4, h5⟩ := r.slots i _ hd
  have hi : i < env.length := (List.getElem?_eq_some_iff.mp hd).1
  have e1 : σ.set i (some (.ref a)) = σ := by
    apply List.ext_getElem?
    intro j
    by_cases e : i = j
    · subst e
      rw [List.getElem?_set_self (r.ilt hi), h1]
    · rw [List.getElem?_set_ne e]
  refine ⟨upd R a y, ?_, same_take h3⟩
  -- first the slot is forgotten
  have r1 : Rep K G B (env.set i .u) σ R H := by
    have := r.set (i := i) (sl := .u) (v := .ref a) hi trivial fun d z => by cases z
    rw [e1] at this
    exact this
  have hs : ∀ (j : Nat) e, (env.set i .u)[j]? = some (.mu e) → σ[j]? ≠ some (some (.ref a)) := fun j e hj => by
    by_cases q : i = j
    · subst q
      rw [List.getElem?_set_self hi] at hj
      cases hj
    · rw [List.getElem?_set_ne q] at hj
      rw [← h1]
      exact fun z => r.dist i j _ _ q hd hj z.symm
  have r2 := r1.take h4 (mat_ne h5) h2 h3 hs fun q hq w => (r.pr q hq).2.2.2 i _ hd (by rw [w]; exact h1)
  have := r2.set (i := i) (sl := .p d) (v := .ref a) (by rw [List.length_set]; exact hi) ⟨.ref a, List.getElem?_set_self (r.ilt hi), At.of_mat h5 h3⟩ fun d z => by cases z
  rw [e1, List.set_set] at this
  exact this
theorem vs_freeze (i : Nat) {t : TS} {d : D} (hd : env[i]? = some (.mu d)) (h : VS K G B t (env.set i (.p d)) nx rt bk ct) : VS K G B t env nx rt bk ct := fun σ R H r Z kn kr kb kc => by
  obtain ⟨R', r', s⟩ := r.freeze hd
  exact h σ R' H r' Z (fun e σ' R2 H2 r2 s2 => kn e σ' R2 H2 r2 (s.trans s2)) (fun v e σ' R2 H2 x r2 s2 => kr v e σ' R2 H2 x r2 (s.trans s2)) (fun e σ' R2 H2 r2 s2 => kb e σ' R2 H2 r2 (s.trans s2)) (fun e σ' R2 H2 r2 s2 => kc e σ' R2 H2 r2 (s.trans s2))
end
end VL

namespace VL
open PySem L2
section
variable {K : PySem.W.Frag} {G : List Int → Prop} {B : Bs} {env : Vn} {σ : L2.St} {R R' R1 H H' H1 : Hp} {Q : XV → Prop} {nx : Vn → Prop} {rt : XV → Prop} {bk ct : Vn → Prop} {Qe : Vn → Prop} {Qb : Bool → Prop}

/-! ### small keys to values -/
def XV.plains : List XV → Option (List D)
  | [] => some []
  | .p d :: r => match XV.plains r with
    | some ds => some (d :: ds)
    | none => none
  | _ :: _ => none
theorem plains_at : ∀ {vs : List V} {xs : List XV} {ds : List D}, XV.plains xs = some ds → VAtL K B env σ R H vs xs → AtL K R vs ds
  | [], [], _, e, _ => by
    cases e
    exact .nil
  | [], _ :: _, _, _, h => h.elim
  | _ :: _, [], _, _, h => h.elim
  | v :: vs, .p d :: xs, ds, e, h => by
    unfold XV.plains at e
    cases q : XV.plains xs with
    | none =>
      rw [q] at e
      cases e
    | some es =>
      rw [q] at e
      cases e
      exact .cons h.1 (plains_at q h.2)
  | _ :: _, .o _ :: _, _, e, _ => by cases e
  | _ :: _, .m _ _ :: _, _, e, _ => by cases e
/-- a new plain object -/
theorem Rep.newP (r : Rep K G B env σ R H) {a : Addr} {y : HO} (h : H a = none) (hy : ∀ φ, y ≠ .ext φ) : Rep K G B env σ (upd R a y) (upd H a y) :=
  (r.new h).take upd_same hy (r.fresh h) (r.sub.none h) (r.noslot h) (r.nopr h)
theorem ve_tup {ta : TA} (h : VA K G B ta env fun xs => ∃ ds, XV.plains xs = some ds ∧ ds.length ≤ 100000 ∧ Q (.p (.tup ds))) : VE K G B (tTup ta) env Q := fun σ R H r Qh k =>
  h σ R H r _ fun vs R1 H1 xs r1 s1 hv _ ⟨ds, e, hl, q⟩ => by
    have ha := plains_at e hv
    refine ⟨by rw [ha.len]; exact Nat.le_trans hl (by decide), fun p hp => ?_⟩
    have hn := r1.sub.none hp
    exact k (.ref p) _ _ (.p (.tup ds)) (r1.newP hp fun φ z => by cases z) (s1.trans (same_take hn)) (.tup (.inl (.inl upd_same)) (ha.same (same_take hn))) q
theorem ve_lst {ta : TA} (h : VA K G B ta env fun xs => ∃ ds, XV.plains xs = some ds ∧ ds.length ≤ 100000 ∧ Q (.o (.lst ds))) : VE K G B (tLst ta) env Q := fun σ R H r Qh k =>
  h σ R H r _ fun vs R1 H1 xs r1 s1 hv _ ⟨ds, e, hl, q⟩ => by
    have ha := plains_at e hv
    refine ⟨by rw [ha.len]; exact Nat.le_trans hl (by decide), fun p hp => ?_⟩
    exact k (.ref p) R1 _ (.o (.lst ds)) (r1.new hp) s1 ⟨p, _, rfl, r1.fresh hp, r1.sub.none hp, upd_same, ha, r1.noslot hp, r1.nopr hp⟩ q
/-- a new own list, a new own dict -/
theorem own_lst (r : Rep K G B env σ R H) {p : Addr} {xs : List V} {ds : List D} (hp : H p = none) (ha : AtL K R xs ds) : Rep K G B env σ R (upd H p (.lst xs)) ∧ VAt K B env σ R (upd H p (.lst xs)) (.ref p) (.o (.lst ds)) :=
  ⟨r.new hp, p, _, rfl, r.fresh hp, r.sub.none hp, upd_same, ha, r.noslot hp, r.nopr hp⟩
theorem own_dct (r : Rep K G B env σ R H) {p : Addr} {xs : List (Key × V)} {ds : List (Key × D)} (hp : H p = none) (ha : AtD K R xs ds) : Rep K G B env σ R (upd H p (.dK xs)) ∧ VAt K B env σ R (upd H p (.dK xs)) (.ref p) (.o (.dct ds)) :=
  ⟨r.new hp, p, _, rfl, r.fresh hp, r.sub.none hp, upd_same, ha, r.noslot hp, r.nopr hp⟩
theorem ve_dnew (q : Q (.o (.dct []))) : VE K G B tDNewK env Q := fun σ R H r Qh k p hp => by
  obtain ⟨r2, v2⟩ := own_dct (ds := []) r hp .nil
  exact k _ R _ _ r2 (Same.refl R) v2 q

/-! ### a list is read: plain, locked, or a slot's -/
def XV.seqL : XV → Option (List D)
  | .p (.lst ds) => some ds
  | .p (.ro ds) => some ds
  | .m _ (.lst ds) => some ds
  | _ => none
theorem seqL_at (r : Rep K G B env σ R H) {v : V} {x : XV} {ds : List D} (h : VAt K B env σ R H v x) (e : x.seqL = some ds) : ∃ a xs, v = .ref a ∧ SqL K H a xs ∧ AtL K R xs ds := by
  cases x with
  | p d =>
    cases d with
    | lst es =>
      cases e
      cases h with
      | @lst a xs _ h1 h2 => exact ⟨a, xs, rfl, r.sub.l (.inl (.inl h1)), h2⟩
    | ro es =>
      cases e
      cases h with
      | @ro a xs _ h1 h2 => exact ⟨a, xs, rfl, r.sub.l h1, h2⟩
    | _ => cases e
  | o d => cases e
  | m i d =>
    cases d with
    | lst es =>
      cases e
      obtain ⟨h1, h2⟩ := h
      obtain ⟨a, y, g1, g2, g3, g4, g5⟩ := r.slots i _ h1
      rw [g1] at h2
      cases h2
      cases y with
      | lst xs => exact ⟨a, xs, rfl, .inl (.inl g4), g5⟩
      | _ => exact g5.elim
    | _ => cases e
/-- exactly a list, not a locked one -/
def XV.exL : XV → Option (List D)
  | .p (.lst ds) => some ds
  | .m _ (.lst ds) => some ds
  | _ => none
theorem exL_at (r : Rep K G B env σ R H) {v : V} {x : XV} {ds : List D} (h : VAt K B env σ R H v x) (e : x.exL = some ds) : ∃ a xs, v = .ref a ∧ H a = some (.lst xs) ∧ AtL K R xs ds := by
  cases x with
  | p d =>
    cases d with
    | lst es =>
      cases e
      cases h with
      | @lst a xs _ h1 h2 => exact ⟨a, xs, rfl, r.sub.of h1 (fun φ z => by cases z), h2⟩
    | _ => cases e
  | o d => cases e
  | m i d =>
    cases d with
    | lst es =>
      cases e
      obtain ⟨h1, h2⟩ := h
      obtain ⟨a, y, g1, g2, g3, g4, g5⟩ := r.slots i _ h1
      rw [g1] at h2
      cases h2
      cases y with
      | lst xs => exact ⟨a, xs, rfl, g4, g5⟩
      | _ => exact g5.elim
    | _ => cases e
theorem tup_at (r : Rep K G B env σ R H) {v : V} {ds : List D} (h : VAt K B env σ R H v (.p (.tup ds))) : ∃ a xs, v = .ref a ∧ SqT K H a xs ∧ SqT K R a xs ∧ AtL K R xs ds := by
  cases h with
  | @tup a xs _ h1 h2 => exact ⟨a, xs, rfl, r.sub.t h1, h1, h2⟩
theorem int_at {v : V} {i : Int} (h : VAt K B env σ R H v (.p (.int i))) : v = .int i := by cases h; rfl
theorem str_at {v : V} {i : Str} (h : VAt K B env σ R H v (.p (.str i))) : v = .str i := by cases h; rfl
theorem bl_at {v : V} {i : Bool} (h : VAt K B env σ R H v (.p (.bl i))) : v = .bl i := by cases h; rfl

/-! ### operators -/
theorem vo_I0 {g : Int → Int → Int} {i j : Int} (q : Q (.p (.int (g i j)))) : VO K G B (rI0 fun i j => .int (g i j)) env (.p (.int i)) (.p (.int j)) Q := fun σ R H r v w hv hw Qh k =>
  ⟨i, j, int_at hv, int_at hw, k _ R H (.p (.int (g i j))) r (Same.refl R) (.int _) q⟩
theorem vo_B0 {g : Int → Int → Bool} {i j : Int} (q : Q (.p (.bl (g i j)))) : VO K G B (rI0 fun i j => .bl (g i j)) env (.p (.int i)) (.p (.int j)) Q := fun σ R H r v w hv hw Qh k =>
  ⟨i, j, int_at hv, int_at hw, k _ R H (.p (.bl (g i j))) r (Same.refl R) (.bl _) q⟩
theorem vo_I {C : Int → Int → Prop} {g : Int → Int → Int} {i j : Int} (hc : C i j) (q : Q (.p (.int (g i j)))) : VO K G B (rI C fun i j => .int (g i j)) env (.p (.int i)) (.p (.int j)) Q := fun σ R H r v w hv hw Qh k =>
  ⟨i, j, int_at hv, int_at hw, hc, k _ R H (.p (.int (g i j))) r (Same.refl R) (.int _) q⟩
theorem vo_ip {f : Int → Int → Int} {i j : Int} (q : Q (.p (.int (f i j)))) : VO K G B (ipI f) env (.p (.int i)) (.p (.int j)) Q := fun σ R H r v w hv hw Qh k =>
  ⟨i, j, int_at hv, int_at hw, k _ R H (.p (.int (f i j))) r (Same.refl R) (.int _) q⟩
theorem vu_I {g : Int → Int} {i : Int} (q : Q (.p (.int (g i)))) : VU K G B (rU fun i => .int (g i)) env (.p (.int i)) Q := fun σ R H r v hv Qh k =>
  ⟨i, int_at hv, k _ R H (.p (.int (g i))) r (Same.refl R) (.int _) q⟩
/-- scalars -/
def D.sc : D → Option V
  | .non => some .non
  | .bl b => some (.bl b)
  | .int i => some (.int i)
  | .str x => some (.str x)
  | _ => none
theorem sc_at {v w : V} {d : D} (h : VAt K B env σ R H v (.p d)) (e : d.sc = some w) : v = w := by
  cases d <;> first | (cases e; cases h; rfl; done) | cases e
theorem vo_eq {d e : D} {v w : V} (hd : d.sc = some v) (he : e.sc = some w) (hs : scal v w = true) (q : Q (.p (.bl (decide (v = w))))) : VO K G B rEq env (.p d) (.p e) Q := fun σ R H r x y hx hy Qh k => by
  have e1 := sc_at hx hd
  have e2 := sc_at hy he
  subst e1
  subst e2
  exact ⟨hs, k _ R H (.p (.bl _)) r (Same.refl R) (.bl _) q⟩
theorem vo_ne {d e : D} {v w : V} (hd : d.sc = some v) (he : e.sc = some w) (hs : scal v w = true) (q : Q (.p (.bl (!decide (v = w))))) : VO K G B rNe env (.p d) (.p e) Q := fun σ R H r x y hx hy Qh k => by
  have e1 := sc_at hx hd
  have e2 := sc_at hy he
  subst e1
  subst e2
  exact ⟨hs, k _ R H (.p (.bl _)) r (Same.refl R) (.bl _) q⟩
theorem dec_int (i j : Int) : decide (V.int i = V.int j) = decide (i = j) := decide_eq_decide.mpr ⟨fun h => by cases h; rfl, fun h => by rw [h]⟩
theorem dec_str (i j : Str) : decide (V.str i = V.str j) = decide (i = j) := decide_eq_decide.mpr ⟨fun h => by cases h; rfl, fun h => by rw [h]⟩
theorem dec_bl (i j : Bool) : decide (V.bl i = V.bl j) = decide (i = j) := decide_eq_decide.mpr ⟨fun h => by cases h; rfl, fun h => by rw [h]⟩
theorem vo_eq_int {i j : Int} (q : Q (.p (.bl (decide (i = j))))) : VO K G B rEq env (.p (.int i)) (.p (.int j)) Q := vo_eq rfl rfl rfl (by rw [dec_int]; exact q)
theorem vo_ne_int {i j : Int} (q : Q (.p (.bl (!decide (i = j))))) : VO K G B rNe env (.p (.int i)) (.p (.int j)) Q := vo_ne rfl rfl rfl (by rw [dec_int]; exact q)
theorem vo_eq_str {i j : Str} (q : Q (.p (.bl (decide (i = j))))) : VO K G B rEq env (.p (.str i)) (.p (.str j)) Q := vo_eq rfl rfl rfl (by rw [dec_str]; exact q)
theorem vo_ne_str {i j : Str} (q : Q (.p (.bl (!decide (i = j))))) : VO K G B rNe env (.p (.str i)) (.p (.str j)) Q := vo_ne rfl rfl rfl (by rw [dec_str]; exact q)
theorem vo_eq_bl {i j : Bool} (q : Q (.p (.bl (decide (i = j))))) : VO K G B rEq env (.p (.bl i)) (.p (.bl j)) Q := vo_eq rfl rfl rfl (by rw [dec_bl]; exact q)
theorem vo_ne_bl {i j : Bool} (q : Q (.p (.bl (!decide (i = j))))) : VO K G B rNe env (.p (.bl i)) (.p (.bl j)) Q := vo_ne rfl rfl rfl (by rw [dec_bl]; exact q)
def D.isNon : D → Bool
  | .non => true
  | _ => false
theorem non_at {v : V} {d : D} (h : At K R v d) : decide (v = .non) = d.isNon := by
  cases h <;> rfl
/-- is None, is not None -/
theorem vo_isN {d : D} (q : Q (.p (.bl d.isNon))) : VO K G B (fun x y H Q => y = .non ∧ Q (.bl (decide (x = .non))) H) env (.p d) (.p .non) Q := fun σ R H r v w hv hw Qh k => by
  cases hw
  exact ⟨rfl, by rw [non_at hv]; exact k _ R H (.p (.bl _)) r (Same.refl R) (.bl _) q⟩
theorem vo_notN {d : D} (q : Q (.p (.bl (!d.isNon)))) : VO K G B (fun x y H Q => y = .non ∧ Q (.bl (!decide (x = .non))) H) env (.p d) (.p .non) Q := fun σ R H r v w hv hw Qh k => by
  cases hw
  exact ⟨rfl, by rw [non_at hv]; exact k _ R H (.p (.bl _)) r (Same.refl R) (.bl _) q⟩
/-- xs[i] -/
theorem atl_at {xs : List V} {ds : List D} {i : Int} {d : D} (h : AtL K R xs ds) (e : atI ds i = some d) : ∃ v, atI xs i = some v ∧ At K R v d := by
  unfold atI at e ⊢
  rw [h.len]
  cases q : ixN ds.length i with
  | none =>
    rw [q] at e
    cases e
  | some j =>
    rw [q] at e
    exact h.get e
theorem vo_ixL {x : XV} {ds : List D} {i : Int} {d : D} (hx : x.seqL = some ds) (hi : atI ds i = some d) (q : Q (.p d)) : VO K G B (rIxL K) env x (.p (.int i)) Q := fun σ R H r v w hv hw Qh k => by
  obtain ⟨a, xs, rfl, h1, h2⟩ := seqL_at r hv hx
  obtain ⟨v, h3, h4⟩ := atl_at h2 hi
  exact ⟨a, xs, i, v, rfl, int_at hw, h1, h3, k v R H (.p d) r (Same.refl R) h4 q⟩
theorem vo_ixT {ds : List D} {i : Int} {d : D} (hi : atI ds i = some d) (q : Q (.p d)) : VO K G B (rIxT K) env (.p (.tup ds)) (.p (.int i)) Q := fun σ R H r v w hv hw Qh k => by
  obtain ⟨a, xs, rfl, h1, _, h2⟩ := tup_at r hv
  obtain ⟨v, h3, h4⟩ := atl_at h2 hi
  exact ⟨a, xs, i, v, rfl, int_at hw, h1, h3, k v R H (.p d) r (Same.refl R) h4 q⟩
theorem vo_ixS {z : Str} {i : Int} {c : Nat} (hz : z.length ≤ 100000) (hi : atI z.cps.toList i = some c) (q : Q (.p (.str ⟨#[c]⟩))) : VO K G B rIxS env (.p (.str z)) (.p (.int i)) Q := fun σ R H r v w hv hw Qh k =>
  ⟨z, i, c, str_at hv, int_at hw, Nat.le_trans hz (by decide), hi, k _ R H (.p (.str _)) r (Same.refl R) (.str _) q⟩
theorem vo_add_str {i j : Str} (hl : i.length + j.length ≤ 100000) (q : Q (.p (.str (i ++ j)))) : VO K G B (fun x y H Q => ∃ i j, x = .str i ∧ y = .str j ∧ i.length + j.length ≤ sizeLine ∧ Q (.str (i ++ j)) H) env (.p (.str i)) (.p (.str j)) Q := fun σ R H r v w hv hw Qh k =>
  ⟨i, j, str_at hv, str_at hw, Nat.le_trans hl (by decide), k _ R H (.p (.str _)) r (Same.refl R) (.str _) q⟩
/-- xs + ys, [x] * n -/
theorem vo_cat {x y : XV} {ds es : List D} (hx : x.exL = some ds) (hy : y.exL = some es) (hl : ds.length + es.length ≤ 100000) (q : Q (.o (.lst (ds ++ es)))) : VO K G B rCat env x y Q := fun σ R H r v w hv hw Qh k => by
  obtain ⟨a, xs, rfl, h1, h2⟩ := exL_at r hv hx
  obtain ⟨b, ys, rfl, g1, g2⟩ := exL_at r hw hy
  refine ⟨a, b, xs, ys, rfl, rfl, h1, g1, by rw [h2.len, g2.len]; exact Nat.le_trans hl (by decide), fun p hp => ?_⟩
  obtain ⟨r2, v2⟩ := own_lst r hp (h2.app g2)
  exact k _ R _ _ r2 (Same.refl R) v2 q
theorem AtL.rep1 {v : V} {d : D} (h : At K R v d) : ∀ n, AtL K R (List.replicate n v) (List.replicate n d)
  | 0 => .nil
  | n + 1 => .cons h (AtL.rep1 h n)
theorem rep_one {α : Type} (x : α) : ∀ n, (List.replicate n [x]).flatten = List.replicate n x
  | 0 => rfl
  | n + 1 => by
    rw [List.replicate_succ, List.flatten_cons, rep_one x n]
    rfl
theorem vo_rep1 {x : XV} {d : D} {n : Int} (hx : x.exL = some [d]) (hn : n ≤ 100000) (h0 : -(2 ^ 63) ≤ n) (q : Q (.o (.lst (List.replicate n.toNat d)))) : VO K G B rRep env x (.p (.int n)) Q := fun σ R H r v w hv hw Qh k => by
  obtain ⟨a, xs, rfl, h1, h2⟩ := exL_at r hv hx
  cases h2 with
  | @cons v vs _ _ h3 h4 =>
    cases h4
    refine ⟨a, n, [v], rfl, int_at hw, h1, h0, Int.lt_of_le_of_lt hn (by decide), ?_, fun p hp => ?_⟩
    · show 1 * n.toNat ≤ sizeLine
      rw [Nat.one_mul]
      exact Nat.le_trans (show n.toNat ≤ 100000 by omega) (by decide)
    · rw [rep_one]
      obtain ⟨r2, v2⟩ := own_lst r hp (AtL.rep1 h3 n.toNat)
      exact k _ R _ _ r2 (Same.refl R) v2 q
/-- t + u of tuples -/
theorem vo_catA {ds es : List D} (hl : ds.length + es.length ≤ 100000) (q : Q (.p (.tup (ds ++ es)))) : VO K G B (rCatA K) env (.p (.tup ds)) (.p (.tup es)) Q := fun σ R H r v w hv hw Qh k => by
  obtain ⟨a, xs, rfl, h1, h1', h2⟩ := tup_at r hv
  obtain ⟨b, ys, rfl, g1, g1', g2⟩ := tup_at r hw
  refine ⟨a, b, xs, ys, rfl, rfl, h1, g1, by rw [h2.len, g2.len]; exact Nat.le_trans hl (by decide), fun e => ?_, fun _ e => ?_, fun _ _ p hp => ?_⟩
  · subst e
    cases h2
    exact k _ R H (.p (.tup _)) r (Same.refl R) (.tup g1' g2) q
  · subst e
    cases g2
    rw [List.append_nil] at q
    exact k _ R H (.p (.tup _)) r (Same.refl R) (.tup h1' h2) q
  · have hn := r.sub.none hp
    exact k _ _ _ (.p (.tup _)) (r.newP hp fun φ z => by cases z) (same_take hn) (.tup (.inl (.inl upd_same)) ((h2.app g2).same (same_take hn))) q

/-! ### calls of built-ins -/
theorem vc1 {r : List V → Hp → VK → Prop} {x : XV} (h : ∀ σ R H, Rep K G B env σ R H → ∀ v, VAt K B env σ R H v x → ∀ Qh : VK,
    (∀ z R' H' x', Rep K G B env σ R' H' → Same R R' → VAt K B env σ R' H' z x' → Q x' → Qh z H') → r [v] H Qh) : VC K G B r env [x] Q := fun σ R H rp vs hv Qh k => by
  match vs, hv with
  | [v], hv => exact h σ R H rp v hv.1 Qh k
theorem vc2 {r : List V → Hp → VK → Prop} {x y : XV} (h : ∀ σ R H, Rep K G B env σ R H → ∀ v w, VAt K B env σ R H v x → VAt K B env σ R H w y → ∀ Qh : VK,
    (∀ z R' H' x', Rep K G B env σ R' H' → Same R R' → VAt K B env σ R' H' z x' → Q x' → Qh z H') → r [v, w] H Qh) : VC K G B r env [x, y] Q := fun σ R H rp vs hv Qh k => by
  match vs, hv with
  | [v, w], hv => exact h σ R H rp v w hv.1 hv.2.1 Qh k
/-- len of a list, a tuple, a text -/
theorem vc_lenL {x : XV} {ds : List D} (hx : x.seqL = some ds) (q : Q (.p (.int ds.length))) : VC K G B (fun xs H Q => ∃ p ys, xs = [.ref p] ∧ (SqL K H p ys ∨ SqT K H p ys) ∧ Q (.int ys.length) H) env [x] Q := vc1 fun σ R H r v hv Qh k => by
  obtain ⟨a, xs, rfl, h1, h2⟩ := seqL_at r hv hx
  exact ⟨a, xs, rfl, .inl h1, by rw [h2.len]; exact k _ R H (.p (.int _)) r (Same.refl R) (.int _) q⟩
theorem vc_lenT {ds : List D} (q : Q (.p (.int ds.length))) : VC K G B (fun xs H Q => ∃ p ys, xs = [.ref p] ∧ (SqL K H p ys ∨ SqT K H p ys) ∧ Q (.int ys.length) H) env [.p (.tup ds)] Q := vc1 fun σ R H r v hv Qh k => by
  obtain ⟨a, xs, rfl, h1, _, h2⟩ := tup_at r hv
  exact ⟨a, xs, rfl, .inr h1, by rw [h2.len]; exact k _ R H (.p (.int _)) r (Same.refl R) (.int _) q⟩
theorem vc_lenS {z : Str} (hl : z.length ≤ 100000) (q : Q (.p (.int z.length))) : VC K G B (fun xs H Q => ∃ z, xs = [.str z] ∧ z.length ≤ sizeLine ∧ Q (.int z.length) H) env [.p (.str z)] Q := vc1 fun σ R H r v hv Qh k =>
  ⟨z, by rw [str_at hv], Nat.le_trans hl (by decide), k _ R H (.p (.int _)) r (Same.refl R) (.int _) q⟩
theorem vc_listL {x : XV} {ds : List D} (hx : x.seqL = some ds) (q : Q (.o (.lst ds))) : VC K G B (fun xs H Q => ∃ p ys, xs = [.ref p] ∧ (SqL K H p ys ∨ SqT K H p ys) ∧ ∀ l, H l = none → Q (.ref l) (upd H l (.lst ys))) env [x] Q := vc1 fun σ R H r v hv Qh k => by
  obtain ⟨a, xs, rfl, h1, h2⟩ := seqL_at r hv hx
  refine ⟨a, xs, rfl, .inl h1, fun l hl => ?_⟩
  obtain ⟨r2, v2⟩ := own_lst r hl h2
  exact k _ R _ _ r2 (Same.refl R) v2 q
theorem vc_listT {ds : List D} (q : Q (.o (.lst ds))) : VC K G B (fun xs H Q => ∃ p ys, xs = [.ref p] ∧ (SqL K H p ys ∨ SqT K H p ys) ∧ ∀ l, H l = none → Q (.ref l) (upd H l (.lst ys))) env [.p (.tup ds)] Q := vc1 fun σ R H r v hv Qh k => by
  obtain ⟨a, xs, rfl, h1, _, h2⟩ := tup_at r hv
  refine ⟨a, xs, rfl, .inr h1, fun l hl => ?_⟩
  obtain ⟨r2, v2⟩ := own_lst r hl h2
  exact k _ R _ _ r2 (Same.refl R) v2 q
theorem vc_tupL {x : XV} {ds : List D} (hx : x.seqL = some ds) (q : Q (.p (.tup ds))) : VC K G B (fun xs H Q => ∃ p ys, xs = [.ref p] ∧ ((SqL K H p ys ∧ ∀ l, H l = none → Q (.ref l) (upd H l (.tup ys))) ∨ (SqT K H p ys ∧ Q (.ref p) H))) env [x] Q := vc1 fun σ R H r v hv Qh k => by
  obtain ⟨a, xs, rfl, h1, h2⟩ := seqL_at r hv hx
  refine ⟨a, xs, rfl, .inl ⟨h1, fun l hl => ?_⟩⟩
  have hn := r.sub.none hl
  exact k _ _ _ (.p (.tup _)) (r.newP hl fun φ z => by cases z) (same_take hn) (.tup (.inl (.inl upd_same)) (h2.same (same_take hn))) q
theorem vc_max2 {i j : Int} (q : Q (.p (.int (max i j)))) : VC K G B (fun xs H Q => ∃ i j, xs = [.int i, .int j] ∧ Q (.int (if j > i then j else i)) H) env [.p (.int i), .p (.int j)] Q := vc2 fun σ R H r v w hv hw Qh k => by
  refine ⟨i, j, by rw [int_at hv, int_at hw], ?_⟩
  have e : (if j > i then j else i) = max i j := by split <;> omega
  rw [e]
  exact k _ R H (.p (.int _)) r (Same.refl R) (.int _) q
theorem vc_min2 {i j : Int} (q : Q (.p (.int (min i j)))) : VC K G B (fun xs H Q => ∃ i j, xs = [.int i, .int j] ∧ Q (.int (if j < i then j else i)) H) env [.p (.int i), .p (.int j)] Q := vc2 fun σ R H r v w hv hw Qh k => by
  refine ⟨i, j, by rw [int_at hv, int_at hw], ?_⟩
  have e : (if j < i then j else i) = min i j := by split <;> omega
  rw [e]
  exact k _ R H (.p (.int _)) r (Same.refl R) (.int _) q
theorem vc_abs {i : Int} (q : Q (.p (.int (if i < 0 then -i else i)))) : VC K G B (fun xs H Q => ∃ i, xs = [.int i] ∧ Q (.int (if i < 0 then -i else i)) H) env [.p (.int i)] Q := vc1 fun σ R H r v hv Qh k =>
  ⟨i, by rw [int_at hv], k _ R H (.p (.int _)) r (Same.refl R) (.int _) q⟩
theorem vc_intB {b : Bool} (q : Q (.p (.int (if b then 1 else 0)))) : VC K G B (fun xs H Q => (∃ i, xs = [.int i] ∧ Q (.int i) H) ∨ ∃ k, xs = [.bl k] ∧ Q (.int (if k then 1 else 0)) H) env [.p (.bl b)] Q := vc1 fun σ R H r v hv Qh k =>
  .inr ⟨b, by rw [bl_at hv], k _ R H (.p (.int _)) r (Same.refl R) (.int _) q⟩
/-- typed lists -/
theorem ints_at {x : XV} {ns : List Int} (r : Rep K G B env σ R H) {v : V} (h : VAt K B env σ R H v x) (e : x.seqL = some (ns.map D.int)) : ∃ a, v = .ref a ∧ SqL K H a (ns.map V.int) := by
  obtain ⟨a, xs, rfl, h1, h2⟩ := seqL_at r h e
  rw [AtL.ints_inv h2] at h1
  exact ⟨a, rfl, h1⟩
theorem AtL.bls_inv : ∀ {vs : List V} {ns : List Bool}, AtL K R vs (ns.map D.bl) → vs = ns.map V.bl
  | _, [], h => by cases h; rfl
  | _, n :: r, h => by
    cases h with
    | cons h t =>
      cases h
      rw [AtL.bls_inv t]
      rfl
theorem AtL.strs_inv : ∀ {vs : List V} {ns : List Str}, AtL K R vs (ns.map D.str) → vs = ns.map V.str
  | _, [], h => by cases h; rfl
  | _, n :: r, h => by
    cases h with
    | cons h t =>
      cases h
      rw [AtL.strs_inv t]
      rfl
theorem vc_sum {x : XV} {ns : List Int} (hx : x.seqL = some (ns.map D.int)) (q : Q (.p (.int ns.sum))) : VC K G B (rSum K) env [x] Q := vc1 fun σ R H r v hv Qh k => by
  obtain ⟨a, rfl, h1⟩ := ints_at r hv hx
  exact ⟨a, ns, rfl, h1, k _ R H (.p (.int _)) r (Same.refl R) (.int _) q⟩
theorem vc_any {x : XV} {bs : List Bool} (hx : x.seqL = some (bs.map D.bl)) (q : Q (.p (.bl (bs.any id)))) : VC K G B (rAny K) env [x] Q := vc1 fun σ R H r v hv Qh k => by
  obtain ⟨a, xs, rfl, h1, h2⟩ := seqL_at r hv hx
  rw [AtL.bls_inv h2] at h1
  exact ⟨a, bs, rfl, h1, k _ R H (.p (.bl _)) r (Same.refl R) (.bl _) q⟩
theorem vc_all {x : XV} {bs : List Bool} (hx : x.seqL = some (bs.map D.bl)) (q : Q (.p (.bl (bs.all id)))) : VC K G B (rAll K) env [x] Q := vc1 fun σ R H r v hv Qh k => by
  obtain ⟨a, xs, rfl, h1, h2⟩ := seqL_at r hv hx
  rw [AtL.bls_inv h2] at h1
  exact ⟨a, bs, rfl, h1, k _ R H (.p (.bl _)) r (Same.refl R) (.bl _) q⟩

/-! ### slices -/
def VP (K : PySem.W.Frag) (G : List Int → Prop) (B : Bs) (t : TO) (env : Vn) (Q : Option Int → Prop) : Prop := ∀ σ R H, Rep K G B env σ R H → ∀ Qh : Option Int → Hp → Prop,
  (∀ o R' H', Rep K G B env σ R' H' → Same R R' → Q o → Qh o H') → t σ H Qh
theorem vp_none {Qo : Option Int → Prop} (q : Qo none) : VP K G B tNoPart env Qo := fun σ R H r Qh k => k none R H r (Same.refl R) q
theorem vp_some {Qo : Option Int → Prop} {te : TE} (h : VE K G B te env fun x => ∃ i, x = .p (.int i) ∧ Qo (some i)) : VP K G B (tPart te) env Qo := fun σ R H r Qh k => h σ R H r _ fun v R' H' x r' s' hv ⟨i, e, q⟩ => by
  subst e
  exact ⟨i, int_at hv, k _ R' H' r' s' q⟩
def VSl (K : PySem.W.Frag) (G : List Int → Prop) (B : Bs) (r : V → Option Int → Option Int → Hp → VK → Prop) (env : Vn) (x : XV) (lo hi : Option Int) (Q : XV → Prop) : Prop := ∀ σ R H, Rep K G B env σ R H → ∀ v, VAt K B env σ R H v x → ∀ Qh : VK,
  (∀ z R' H' x', Rep K G B env σ R' H' → Same R R' → VAt K B env σ R' H' z x' → Q x' → Qh z H') → r v lo hi H Qh
theorem ve_slice {r : V → Option Int → Option Int → Hp → VK → Prop} {te : TE} {tl th : TO} (h : VE K G B te env fun x => x.fz fun x => VP K G B tl env fun lo => VP K G B th env fun hi => VSl K G B r env x lo hi Q) : VE K G B (tSl r te tl th) env Q := fun σ R H rp Qh k =>
  h σ R H rp _ fun v R1 H1 x r1 s1 hv q => by
    obtain ⟨R2, x', r2, s2, hv2, ho, q2⟩ := hv.fz r1 q
    exact q2 σ R2 H1 r2 _ fun lo R3 H3 r3 s3 q3 => q3 σ R3 H3 r3 _ fun hi R4 H4 r4 s4 q4 => q4 σ R4 H4 r4 v (hv2.go ho (s3.trans s4)) Qh fun z R5 H5 x5 r5 s5 hz q5 => k z R5 H5 x5 r5 ((((s1.trans s2).trans s3).trans s4).trans s5) hz q5
def cutD (ds : List D) (lo hi : Option Int) : List D := (ds.drop (HT.sIx ds.length 0 lo)).take (HT.sIx ds.length ds.length hi - HT.sIx ds.length 0 lo)
theorem AtL.cut {xs : List V} {ds : List D} (h : AtL K R xs ds) (lo hi : Option Int) : AtL K R (cutV xs lo hi) (cutD ds lo hi) := by
  unfold cutV cutD
  rw [h.len]
  exact (h.drop _).take _
theorem vsl_list {x : XV} {ds : List D} {lo hi : Option Int} (hx : x.seqL = some ds) (q : Q (.o (.lst (cutD ds lo hi)))) : VSl K G B (rSlL K) env x lo hi Q := fun σ R H r v hv Qh k => by
  obtain ⟨a, xs, rfl, h1, h2⟩ := seqL_at r hv hx
  refine ⟨a, xs, rfl, h1, fun p hp => ?_⟩
  obtain ⟨r2, v2⟩ := own_lst r hp (h2.cut lo hi)
  exact k _ R _ _ r2 (Same.refl R) v2 q
theorem cutD_all {ds : List D} {lo hi : Option Int} (h : HT.sIx ds.length 0 lo = 0 ∧ HT.sIx ds.length ds.length hi = ds.length) : cutD ds lo hi = ds := by
  unfold cutD
  rw [h.1, h.2, List.drop_zero, Nat.sub_zero, List.take_length]
theorem vsl_tup {ds : List D} {lo hi : Option Int} (q : Q (.p (.tup (cutD ds lo hi)))) : VSl K G B (rSlA K) env (.p (.tup ds)) lo hi Q := fun σ R H r v hv Qh k => by
  obtain ⟨a, xs, rfl, h1, h1', h2⟩ := tup_at r hv
  refine ⟨a, xs, rfl, h1, fun e => ?_, fun _ p hp => ?_⟩
  · rw [h2.len] at e
    rw [cutD_all e] at q
    exact k _ R H (.p (.tup _)) r (Same.refl R) (.tup h1' h2) q
  · have hn := r.sub.none hp
    exact k _ _ _ (.p (.tup _)) (r.newP hp fun φ z => by cases z) (same_take hn) (.tup (.inl (.inl upd_same)) ((h2.cut lo hi).same (same_take hn))) q
theorem vsl_str {z : Str} {lo hi : Option Int} (hl : z.length ≤ 100000) (q : Q (.p (.str (cutS z lo hi)))) : VSl K G B rSlS env (.p (.str z)) lo hi Q := fun σ R H r v hv Qh k =>
  ⟨z, str_at hv, Nat.le_trans hl (by decide), k _ R H (.p (.str _)) r (Same.refl R) (.str _) q⟩

/-! ### own lists change -/
/-- xs.append(e) -/
theorem vs_append {i : Nat} {te : TE} {ds : List D} (hd : env[i]? = some (.mu (.lst ds))) (h : VE K G B te env fun x => x.fz fun x => ∃ d, x = .p d ∧ ds.length < 100000 ∧ nx (env.set i (.mu (.lst (ds ++ [d]))))) :
    VS K G B (tDrop (tBM K "list" rAppend (tVar i) (tCons te tNil))) env nx rt bk ct := fun σ R H r Z kn _ _ _ => by
  obtain ⟨a, y, h1, h2, h3, h4, h5⟩ := r.slots i _ hd
  obtain ⟨xs, rfl⟩ : ∃ xs, y = .lst xs := by cases y <;> first | exact ⟨_, rfl⟩ | exact h5.elim
  refine ⟨.ref a, h1, .inl ⟨rfl, xs, .inl (.inl h4)⟩, h σ R H r _ fun v R1 H1 x r1 s1 hv q => ?_⟩
  obtain ⟨R2, x', r2, s2, hv2, ho, d, rfl, hl, q2⟩ := hv.fz r1 q
  obtain ⟨b, y, g1, g2, g3, g4, g5⟩ := r2.slots i _ hd
  rw [h1] at g1
  cases g1
  obtain ⟨ys, rfl⟩ : ∃ xs, y = .lst xs := by cases y <;> first | exact ⟨_, rfl⟩ | exact g5.elim
  refine ⟨a, ys, v, rfl, rfl, g4, by rw [AtL.len g5]; exact Nat.lt_of_lt_of_le hl (by decide), ?_⟩
  exact kn _ σ R2 _ (r2.mut hd h1 (y := .lst (ys ++ [v])) (d' := .lst (ds ++ [d])) (AtL.app g5 (.cons hv2 .nil))) (s1.trans s2) q2
/-- xs[e] = v -/
theorem vg_subL {i : Nat} {te : TE} {ds : List D} {d : D} (hd : env[i]? = some (.mu (.lst ds))) (h : VE K G B te env fun x => ∃ z j, x = .p (.int z) ∧ ixN ds.length z = some j ∧ Qe (env.set i (.mu (.lst (ds.set j d))))) :
    VG K G B (gSub (tVar i) te rSetL) (.p d) env Qe := fun σ R H r v hv Qh k => by
  obtain ⟨a, y, h1, _⟩ := r.slots i _ hd
  refine ⟨.ref a, h1, h σ R H r _ fun w R1 H1 x r1 s1 hw ⟨z, j, e, hj, q⟩ => ?_⟩
  subst e
  cases hw
  obtain ⟨b, y, g1, g2, g3, g4, g5⟩ := r1.slots i _ hd
  rw [h1] at g1
  cases g1
  obtain ⟨ys, rfl⟩ : ∃ xs, y = .lst xs := by cases y <;> first | exact ⟨_, rfl⟩ | exact g5.elim
  refine ⟨a, ys, z, j, rfl, rfl, g4, by rw [AtL.len g5]; exact hj, ?_⟩
  exact k _ σ R1 _ (r1.mut hd h1 (y := .lst (ys.set j v)) (d' := .lst (ds.set j d)) (AtL.set (At.same s1 hv) j g5)) s1 q
theorem vg_fz {g : TG} {d : D} (h : VG K G B g (.p d) env Qe) : VG K G B g (.o d) env Qe := fun σ R H r v hv Qh k => by
  obtain ⟨a, y, rfl, h0, hn, hy, hm, hs, hp⟩ := hv
  exact h σ (upd R a y) H (r.take hy (mat_ne hm) h0 hn hs hp) (.ref a) (At.of_mat hm hn) Qh fun e σ' R' H' r' s' q => k e σ' R' H' r' ((same_take hn).trans s') q
/-- x = xs.pop(), xs.pop(k) -/
theorem vs_pop {i : Nat} {g : TG} {ds : List D} {d : D} (hd : env[i]? = some (.mu (.lst ds))) (hl : ds[ds.length - 1]? = some d) (h : VG K G B g (.p d) (env.set i (.mu (.lst ds.dropLast))) nx) :
    VS K G B (tAsg (tBM0 K "list" rPop (tVar i)) g) env nx rt bk ct := fun σ R H r Z kn _ _ _ => by
  obtain ⟨a, y, h1, h2, h3, h4, h5⟩ := r.slots i _ hd
  obtain ⟨xs, rfl⟩ : ∃ xs, y = .lst xs := by cases y <;> first | exact ⟨_, rfl⟩ | exact h5.elim
  have h6 : AtL K R xs ds := h5
  obtain ⟨v, hv, hd'⟩ := h6.get hl
  refine ⟨.ref a, h1, .inl ⟨rfl, xs, .inl (.inl h4)⟩, a, xs, v, rfl, rfl, h4, by rw [h6.len]; exact hv, ?_⟩
  refine h σ R _ (r.mut hd h1 (y := .lst xs.dropLast) (d' := .lst ds.dropLast) ?_) v hd' _ fun e σ' R' H' r' s' q => kn e σ' R' H' r' s' q
  show AtL K R xs.dropLast ds.dropLast
  rw [List.dropLast_eq_take, List.dropLast_eq_take, h6.len]
  exact h6.take _
theorem vs_popAt {i : Nat} {te : TE} {g : TG} {ds : List D} (hd : env[i]? = some (.mu (.lst ds))) (h : VE K G B te env fun x => ∃ (z : Int) (j : Nat) (d : D), x = .p (.int z) ∧ -(2 ^ 63) ≤ z ∧ z < 2 ^ 63 ∧ seqIndex? z ds.length = some j ∧ ds[j]? = some d ∧ VG K G B g (.p d) (env.set i (.mu (.lst (ds.eraseIdx j)))) nx) :
    VS K G B (tAsg (tBM K "list" rPopAt (tVar i) (tCons te tNil)) g) env nx rt bk ct := fun σ R H r Z kn _ _ _ => by
  obtain ⟨a, y, h1, h2, h3, h4, h5⟩ := r.slots i _ hd
  obtain ⟨xs, rfl⟩ : ∃ xs, y = .lst xs := by cases y <;> first | exact ⟨_, rfl⟩ | exact h5.elim
  refine ⟨.ref a, h1, .inl ⟨rfl, xs, .inl (.inl h4)⟩, h σ R H r _ fun v R1 H1 x r1 s1 hv ⟨z, j, d, e, z1, z2, hj, hl, q⟩ => ?_⟩
  subst e
  cases hv
  obtain ⟨b, y, g1, g2, g3, g4, g5⟩ := r1.slots i _ hd
  rw [h1] at g1
  cases g1
  obtain ⟨ys, rfl⟩ : ∃ xs, y = .lst xs := by cases y <;> first | exact ⟨_, rfl⟩ | exact g5.elim
  have g6 : AtL K R1 ys ds := g5
  obtain ⟨v, hv, hd'⟩ := g6.get hl
  refine ⟨a, ys, z, j, v, rfl, rfl, g4, z1, z2, by rw [g6.len]; exact hj, hv, ?_⟩
  exact q σ R1 _ (r1.mut hd h1 (y := .lst (ys.eraseIdx j)) (d' := .lst (ds.eraseIdx j)) (g6.erase j)) v hd' _ fun e σ' R' H' r' s' q => kn e σ' R' H' r' (s1.trans s') q
/-- xs.insert(e, f) -/
theorem vs_insert {i : Nat} {te tf : TE} {ds : List D} (hd : env[i]? = some (.mu (.lst ds))) (h : VE K G B te env fun x => ∃ z, x = .p (.int z) ∧ 0 ≤ z ∧ z < 2 ^ 63 ∧ ds.length < 100000 ∧ VE K G B tf env fun y => y.fz fun y => ∃ d, y = .p d ∧ nx (env.set i (.mu (.lst (ds.take z.toNat ++ [d] ++ ds.drop z.toNat))))) :
    VS K G B (tDrop (tBM K "list" (fun x vs H Q => ∃ (l : Addr) (xs : List V) (i : Int) (y : V), x = .ref l ∧ vs = [.int i, y] ∧ H l = some (.lst xs) ∧ xs.length < sizeLine ∧ 0 ≤ i ∧ i < 2 ^ 63 ∧ Q .non (upd H l (.lst (xs.take i.toNat ++ [y] ++ xs.drop i.toNat)))) (tVar i) (tCons te (tCons tf tNil)))) env nx rt bk ct := fun σ R H r Z kn _ _ _ => by
  obtain ⟨a, y, h1, h2, h3, h4, h5⟩ := r.slots i _ hd
  obtain ⟨xs, rfl⟩ : ∃ xs, y = .lst xs := by cases y <;> first | exact ⟨_, rfl⟩ | exact h5.elim
  refine ⟨.ref a, h1, .inl ⟨rfl, xs, .inl (.inl h4)⟩, h σ R H r _ fun w R0 H0 x0 r0 s0 hw ⟨z, e, z0, z1, hl, h'⟩ => h' σ R0 H0 r0 _ fun v R1 H1 x r1 s1 hv q => ?_⟩
  subst e
  cases hw
  obtain ⟨R2, x', r2, s2, hv2, ho, d, rfl, q2⟩ := hv.fz r1 q
  obtain ⟨b, y, g1, g2, g3, g4, g5⟩ := r2.slots i _ hd
  rw [h1] at g1
  cases g1
  obtain ⟨ys, rfl⟩ : ∃ xs, y = .lst xs := by cases y <;> first | exact ⟨_, rfl⟩ | exact g5.elim
  have g6 : AtL K R2 ys ds := g5
  refine ⟨a, ys, z, v, rfl, rfl, g4, by rw [g6.len]; exact Nat.lt_of_lt_of_le hl (by decide), z0, z1, ?_⟩
  exact kn _ σ R2 _ (r2.mut hd h1 (y := .lst (ys.take z.toNat ++ [v] ++ ys.drop z.toNat)) (d' := .lst (ds.take z.toNat ++ [d] ++ ds.drop z.toNat)) (((g6.take _).app (.cons hv2 .nil)).app (g6.drop _))) ((s0.trans s1).trans s2) q2

/-! ### comprehensions -/
def TgOnly (g : TG) (vs : List Nat) : Prop := ∀ v σ H (Q Q' : L2.St → Hp → Prop), (∀ σ' H', wipe σ' vs = wipe σ vs → Q σ' H' → Q' σ' H') → g v σ H Q → g v σ H Q'
def TgsOnly (g : TGs) (vs : List Nat) : Prop := ∀ v σ H (Q Q' : L2.St → Hp → Prop), (∀ σ' H', wipe σ' vs = wipe σ vs → Q σ' H' → Q' σ' H') → g v σ H Q → g v σ H Q'
theorem wipe_set : ∀ (σ : L2.St) (vs : List Nat) (i : Nat) (x : Option V), i ∈ vs → wipe (σ.set i x) vs = wipe σ vs := by
  have out : ∀ (σ : L2.St) (vs : List Nat) (i : Nat) (x : Option V), i ∉ vs → wipe (σ.set i x) vs = (wipe σ vs).set i x := by
    intro σ vs
    induction vs with
    | nil => intro i x _; rfl
    | cons v r ih =>
      intro i x h
      have hv : i ≠ v := fun z => h (by rw [z]; exact List.mem_cons_self)
      show (wipe (σ.set i x) r).set v none = ((wipe σ r).set v none).set i x
      rw [ih i x fun z => h (List.mem_cons_of_mem _ z), List.set_comm _ _ (Ne.symm hv).symm]
  intro σ vs
  induction vs with
  | nil => intro i x h; cases h
  | cons v r ih =>
    intro i x h
    show (wipe (σ.set i x) r).set v none = (wipe σ r).set v none
    by_cases hr : i ∈ r
    · rw [ih i x hr]
    · have e : i = v := by
        rcases List.mem_cons.mp h with e | e
        · exact e
        · exact absurd e hr
      subst e
      rw [out σ r i x hr, List.set_set]
theorem only_name {i : Nat} {vs : List Nat} (h : i ∈ vs) : TgOnly (gName i) vs := fun v σ H Q Q' k q => k _ _ (wipe_set σ vs i _ h) q
theorem only_nil {vs : List Nat} : TgsOnly gNil vs := fun v σ H Q Q' k ⟨e, q⟩ => ⟨e, k _ _ rfl q⟩
theorem only_cons {t : TG} {u : TGs} {vs : List Nat} (h1 : TgOnly t vs) (h2 : TgsOnly u vs) : TgsOnly (gCons t u) vs := fun v σ H Q Q' k ⟨x, r, e, q⟩ =>
  ⟨x, r, e, h1 x σ H _ _ (fun σ' H' w q => h2 r σ' H' _ _ (fun σ2 H2 w2 q2 => k σ2 H2 (w2.trans w) q2) q) q⟩
theorem only_tup {n : Nat} {u : TGs} {vs : List Nat} (h2 : TgsOnly u vs) : TgOnly (gTup K n u) vs := fun v σ H Q Q' k ⟨a, xs, e, h, hl, q⟩ => ⟨a, xs, e, h, hl, h2 xs σ H _ _ k q⟩
theorem wipe_wipe (σ : L2.St) : ∀ vs, wipe (wipe σ vs) vs = wipe σ vs := by
  have h : ∀ (vs ws : List Nat) (τ : L2.St), (∀ v ∈ ws, v ∈ vs) → wipe (wipe τ ws) vs = wipe τ vs := by
    intro vs ws
    induction ws with
    | nil => intro τ _; rfl
    | cons w r ih =>
      intro τ hw
      show wipe ((wipe τ r).set w none) vs = wipe τ vs
      rw [wipe_set _ _ _ _ (hw w List.mem_cons_self)]
      exact ih τ fun v q => hw v (List.mem_cons_of_mem _ q)
  intro vs
  exact h vs vs σ fun v q => q
theorem wipe_get {σ : L2.St} : ∀ {vs : List Nat} {i : Nat}, i ∉ vs → (wipe σ vs)[i]? = σ[i]?
  | [], _, _ => rfl
  | v :: r, i, h => by
    show ((wipe σ r).set v none)[i]? = σ[i]?
    rw [List.getElem?_set_ne (fun z => h (by rw [z]; exact List.mem_cons_self))]
    exact wipe_get fun z => h (List.mem_cons_of_mem _ z)
theorem Rep.wiped (r : Rep K G B env σ R H) {vs : List Nat} (hu : ∀ v ∈ vs, env[v]? = some .u) : Rep K G B env (wipe σ vs) R H := by
  have hg : ∀ (j : Nat) sl, env[j]? = some sl → sl ≠ .u → (wipe σ vs)[j]? = σ[j]? := fun j sl q n => wipe_get fun z => n (by rw [hu j z] at q; exact (Option.some.inj q).symm)
  exact {
    sub0 := r.sub0
    step := r.step
    len := by rw [wipe_length]; exact r.len
    slots := fun i sl q => by
      have := r.slots i sl q
      cases sl with
      | u => trivial
      | p d =>
        obtain ⟨v, h1, h2⟩ := this
        exact ⟨v, by rw [hg i _ q (fun z => by cases z)]; exact h1, h2⟩
      | mu d =>
        obtain ⟨a, y, h1, h2⟩ := this
        exact ⟨a, y, by rw [hg i _ q (fun z => by cases z)]; exact h1, h2⟩
    dist := fun i j d e n hi hj => by
      rw [hg i _ hi (fun z => by cases z), hg j _ hj (fun z => by cases z)]
      exact r.dist i j d e n hi hj
    pr := fun q hq => by
      obtain ⟨h1, h2, h3, h4⟩ := r.pr q hq
      exact ⟨h1, h2, h3, fun j e hj => by rw [hg j _ hj (fun z => by cases z)]; exact h4 j e hj⟩ }
def Agree (vs : List Nat) (env e : Vn) : Prop := e.length = env.length ∧ ∀ i : Nat, i ∉ vs → e[i]? = env[i]?
theorem Agree.refl {vs : List Nat} : Agree vs env env := ⟨rfl, fun _ _ => rfl⟩
theorem Agree.set {vs : List Nat} {e : Vn} {i : Nat} {s : Slot} (h : Agree vs env e) (hi : i ∈ vs) : Agree vs env (e.set i s) := ⟨by rw [List.length_set]; exact h.1, fun j hj => by
  rw [List.getElem?_set_ne (fun z => hj (by rw [← z]; exact hi))]
  exact h.2 j hj⟩
theorem Rep.unwiped {σ2 : L2.St} {e2 : Vn} {vs : List Nat} (r : Rep K G B env σ R H) (r2 : Rep K G B e2 σ2 R' H') (hu : ∀ v ∈ vs, env[v]? = some .u) (a : Agree vs env e2) (hw : wipe σ2 vs = wipe σ vs) : Rep K G B env σ R' H' := by
  have hs : ∀ i : Nat, i ∉ vs → σ2[i]? = σ[i]? := fun i hi => by rw [← wipe_get hi, hw, wipe_get hi]
  have he : ∀ (i : Nat) sl, env[i]? = some sl → sl ≠ .u → e2[i]? = some sl ∧ σ2[i]? = σ[i]? := fun i sl q n => by
    have hi : i ∉ vs := fun z => n (by rw [hu i z] at q; exact (Option.some.inj q).symm)
    exact ⟨by rw [a.2 i hi]; exact q, hs i hi⟩
  exact {
    sub0 := r.sub0
    step := r2.step
    len := r.len
    dist := r.dist
    slots := fun i sl q => by
      by_cases n : sl = .u
      · subst n
        trivial
      · obtain ⟨q1, q2⟩ := he i sl q n
        have := r2.slots i sl q1
        cases sl with
        | u => trivial
        | p d =>
          obtain ⟨v, h1, h2⟩ := this
          exact ⟨v, by rw [← q2]; exact h1, h2⟩
        | mu d =>
          obtain ⟨a, y, h1, h2⟩ := this
          exact ⟨a, y, by rw [← q2]; exact h1, h2⟩
    pr := fun q hq => by
      obtain ⟨h1, h2, h3, h4⟩ := r2.pr q hq
      exact ⟨h1, h2, h3, (r.pr q hq).2.2.2⟩ }
/-- [elt for target in iter if test] -/
theorem ve_lc {wi : TI} {g : TG} {tt : TT} {te : TE} {vs : List Nat} (hu : ∀ v ∈ vs, env[v]? = some .u) (ho : TgOnly g vs)
    (h : VI K G B wi env fun items => items.length < 100000 ∧ ∃ Iv : Nat → List D → Prop, Iv 0 [] ∧
      (∀ p (i : Nat) d acc, items[i]? = some d → Iv i acc → VG K G { B with pr := p :: B.pr } g (.p d) env fun e => Agree vs env e ∧ VT K G { B with pr := p :: B.pr } tt e fun b =>
        (b = true → VE K G { B with pr := p :: B.pr } te e fun x => x.fz fun x => ∃ y, x = .p y ∧ Iv (i + 1) (acc ++ [y])) ∧ (b = false → Iv (i + 1) acc)) ∧ (∀ acc, Iv items.length acc → Q (.o (.lst acc)))) :
    VE K G B (tLc wi g tt te vs) env Q := fun σ R H r Qh k =>
  h σ R H r _ fun J R1 H1 items r1 s1 wk ⟨hsz, Iv, h0, hs, he⟩ => by
    intro D hD
    refine ⟨fun i m H' => i + m = items.length ∧ ∃ R' xs ds, Rep K G { B with pr := (D, .lst xs) :: B.pr } env σ R' H' ∧ Same R1 R' ∧ AtL K R' xs ds ∧ ds.length ≤ i ∧ Iv i ds,
      ⟨items.length, Nat.zero_add _, R1, [], [], (r1.new hD).guard (r1.fresh hD) (r1.sub.none hD) upd_same (r1.noslot hD), Same.refl _, .nil, Nat.le_refl _, h0⟩, ?_⟩
    rintro i m H' ⟨hi, R', xs, ds, r', s', ha, hl, q⟩
    obtain ⟨d1, d2, d3, d4⟩ := r'.guarded
    have ru := r'.unguard
    by_cases hm : m = 0
    · subst hm
      have ei : i = items.length := hi
      subst ei
      refine .inl ⟨wk.stop _ env σ R' H' r' s', k (.ref D) R' H' (.o (.lst ds)) ru (s1.trans s') ⟨D, _, rfl, d1, d2, d3, ha, d4, ?_⟩ (he ds q)⟩
      -- no elder protected object is D
      intro p hp e
      have h3 := (r1.pr p hp).2.2.1
      rw [e, hD] at h3
      cases h3
    · have hlt : i < items.length := by omega
      have rw' := r'.wiped hu
      obtain ⟨g1, g2⟩ := wk.go _ env _ R' H' rw' s' i items[i] (List.getElem?_eq_getElem hlt)
      refine .inr ⟨g1, fun H2 => ∃ R' xs ds, Rep K G { B with pr := (D, .lst xs) :: B.pr } env σ R' H2 ∧ Same R1 R' ∧ AtL K R' xs ds ∧ ds.length ≤ i + 1 ∧ Iv (i + 1) ds, fun H2 ⟨R2, ys, es, a, b, c, d, e⟩ => ⟨m - 1, by omega, by omega, R2, ys, es, a, b, c, d, e⟩, fun v H2 hy => ?_⟩
      obtain ⟨R2, r2, s2, hv⟩ := g2 v H2 hy
      have st2 : Same R1 R2 := s'.trans s2
      refine ho v (wipe σ vs) H2 _ _ ?_ (hs _ i items[i] ds (List.getElem?_eq_getElem hlt) q _ R2 H2 r2 v hv (fun σ3 H3 => ∃ e R3, Rep K G { B with pr := (D, .lst xs) :: B.pr } e σ3 R3 H3 ∧ Same R2 R3 ∧ Agree vs env e ∧ VT K G { B with pr := (D, .lst xs) :: B.pr } tt e _) fun e σ3 R3 H3 r3 s3 q3 => ⟨e, R3, r3, s3, q3.1, q3.2⟩)
      rintro σ3 H3 hw ⟨e, R3, r3, s3, hag, q3⟩
      have hw3 : wipe σ3 vs = wipe σ vs := hw.trans (wipe_wipe σ vs)
      refine ⟨hw3, q3 σ3 R3 H3 r3 _ fun b R4 H4 r4 s4 q4 => ?_⟩
      cases b with
      | false =>
        have st4 : Same R1 R4 := (st2.trans s3).trans s4
        exact iteF ⟨R4, xs, ds, r'.unwiped r4 hu hag hw3, st4, ha.same ((s2.trans s3).trans s4), Nat.le_succ_of_le hl, q4.2 rfl⟩
      | true =>
        refine iteT (q4.1 rfl σ3 R4 H4 r4 _ fun w R5 H5 x r5 s5 hw5 q5 => ?_)
        obtain ⟨R6, x', r6, s6, hv6, hof, y, rfl, q6⟩ := hw5.fz r5 q5
        obtain ⟨f1, f2, f3, f4⟩ := r6.guarded
        have st6 : Same R1 R6 := ((((st2.trans s3).trans s4).trans s5).trans s6)
        have st6' : Same R' R6 := ((((s2.trans s3).trans s4).trans s5).trans s6)
        refine ⟨xs, f3, by rw [ha.len]; exact Nat.lt_of_le_of_lt hl (Nat.lt_trans hlt (Nat.lt_of_lt_of_le hsz (by decide))), R6, xs ++ [w], ds ++ [y], ?_, st6, (ha.same st6').app (.cons hv6 .nil), ?_, q6⟩
        · have r7 := (r'.unwiped r6 hu hag hw3)
          have r8 := r7.unguard
          have np : ∀ q ∈ B.pr, q.1 ≠ D := fun p hp e => by
            have h3 := (r1.pr p hp).2.2.1
            rw [e, hD] at h3
            cases h3
          exact (r8.mutA (y := .lst (xs ++ [w])) f1 f2 d4 np).guard f1 f2 upd_same d4
        · rw [List.length_append]
          exact Nat.succ_le_succ hl
/-- .. of one thing an item -/
theorem ve_lcm {wi : TI} {g : TG} {tt : TT} {te : TE} {vs : List Nat} (hu : ∀ v ∈ vs, env[v]? = some .u) (ho : TgOnly g vs) 
    (h : VI K G B wi env fun items => items.length < 100000 ∧ ∃ f : D → Option D,
      (∀ p (i : Nat) d, items[i]? = some d → VG K G { B with pr := p :: B.pr } g (.p d) env fun e => Agree vs env e ∧ VT K G { B with pr := p :: B.pr } tt e fun b =>
        (b = true → VE K G { B with pr := p :: B.pr } te e fun x => x.fz fun x => ∃ y, x = .p y ∧ f d = some y) ∧ (b = false → f d = none)) ∧ Q (.o (.lst (items.filterMap f)))) :
    VE K G B (tLc wi g tt te vs) env Q := ve_lc hu ho fun σ R H r Qh k => h σ R H r _ fun J R1 H1 items r1 s1 wk ⟨hsz, f, hs, q⟩ => k J R1 H1 items r1 s1 wk
  ⟨hsz, fun i acc => acc = (items.take i).filterMap f, rfl, fun p i d acc hi e => by
    subst e
    have et : items.take (i + 1) = items.take i ++ [d] := by rw [List.take_add_one, hi]; rfl
    refine fun σ R H r v hv Qh k => hs p i d hi σ R H r v hv Qh fun e σ' R' H' r' s' ⟨ha, q⟩ => k e σ' R' H' r' s' ⟨ha, fun σ R H r Qh k => q σ R H r Qh fun b R' H' r' s' q => k b R' H' r' s' ⟨fun hb σ R H r Qh k => q.1 hb σ R H r Qh fun v R' H' x r' s' hv q => k v R' H' x r' s' hv ?_, fun hb => ?_⟩⟩
    · have key : ∀ y, f d = some y → (items.take i).filterMap f ++ [y] = (items.take (i + 1)).filterMap f := fun y hf => by
        rw [et, List.filterMap_append]
        simp [hf]
      cases x with
      | p d' =>
        obtain ⟨y, e, hf⟩ := q
        cases e
        exact fz_p ⟨_, rfl, key _ hf⟩
      | o d' =>
        obtain ⟨y, e, hf⟩ := q
        cases e
        exact fz_o ⟨_, rfl, key _ hf⟩
      | m _ d' =>
        obtain ⟨y, e, hf⟩ := q
        cases e
    · show (items.take i).filterMap f = (items.take (i + 1)).filterMap f
      rw [et, List.filterMap_append]
      simp [q.2 hb], fun acc e => by
    subst e
    rw [List.take_length]
    exact q⟩
/-- no tests, one test -/
theorem vt_yes (q : Qb true) : VT K G B tYes env Qb := fun σ R H r Qh k => k true R H r (Same.refl R) q
/-! ### one step of a reading -/
theorem ex_bl {Qb : Bool → Prop} {b : Bool} (q : Qb b) : ∃ c, XV.p (.bl b) = XV.p (.bl c) ∧ Qb c := ⟨b, rfl, q⟩
theorem ex_int {Qb : Int → Prop} {b : Int} (q : Qb b) : ∃ c, XV.p (.int b) = XV.p (.int c) ∧ Qb c := ⟨b, rfl, q⟩
theorem ex_io {Qb : Option Int → Prop} {b : Int} (q : Qb (some b)) : ∃ c, XV.p (.int b) = XV.p (.int c) ∧ Qb (some c) := ⟨b, rfl, q⟩
theorem ex_plains {Q : List D → Prop} {xs : List XV} {ds : List D} (h : XV.plains xs = some ds) (hl : Nat.ble ds.length 100000 = true) (q : Q ds) : ∃ ds, XV.plains xs = some ds ∧ ds.length ≤ 100000 ∧ Q ds := ⟨ds, h, Nat.le_of_ble_eq_true hl, q⟩
end
end VL

namespace VL
open PySem L2
section
variable {K : PySem.W.Frag} {G : List Int → Prop} {B : Bs} {env : Vn} {σ : L2.St} {R R' R1 H H' H1 : Hp} {Q : XV → Prop} {nx : Vn → Prop} {rt : XV → Prop} {bk ct : Vn → Prop} {Qe : Vn → Prop} {Qb : Bool → Prop} {Ql : List D → Prop}

theorem and_f {b : Bool} {A B : Prop} (hb : b = false) (q : B) : (b = true → A) ∧ (b = false → B) := ⟨fun h => (by rw [hb] at h; cases h), fun _ => q⟩
theorem and_t {b : Bool} {A B : Prop} (hb : b = true) (q : A) : (b = true → A) ∧ (b = false → B) := ⟨fun _ => q, fun h => (by rw [hb] at h; cases h)⟩
theorem vs_cut {t : TS} (M : Vn → Prop) (h : VS K G B t env M rt bk ct) (k : ∀ e, M e → nx e) : VS K G B t env nx rt bk ct := fun σ R H r Z kn kr kb kc => h σ R H r Z (fun e σ' R' H' r' s' q => kn e σ' R' H' r' s' (k e q)) kr kb kc
theorem flat_ints (ns : List Int) : D.flat (.lst (ns.map D.int)) = true := by
  show (ns.map D.int).all (D.deepT 9) = true
  rw [List.all_map]
  exact List.all_eq_true.mpr fun _ _ => rfl
theorem cutD_ints (ns : List Int) (lo hi : Option Int) : cutD (ns.map D.int) lo hi = ((ns.drop (HT.sIx ns.length 0 lo)).take (HT.sIx ns.length ns.length hi - HT.sIx ns.length 0 lo)).map D.int := by
  unfold cutD
  rw [List.length_map, ← List.map_drop, ← List.map_take]
theorem atI_map {ns : List Int} {j : Nat} {n : Int} (h : ns[j]? = some n) : atI (ns.map D.int) (j : Int) = some (.int n) := atI_nat (by rw [List.getElem?_map, h]; rfl)
theorem sIx_nn {n d : Nat} {k : Int} (h : 0 ≤ k) : HT.sIx n d (some k) = min k.toNat n := by
  show (if k < 0 then (k + (n : Int)).toNat else min k.toNat n) = min k.toNat n
  rw [if_neg (by omega)]

/-! ### a call to which slots' objects are lent -/
def MuAt (env : Vn) (σ : L2.St) (b : Addr) : Prop := ∃ (i : Nat) (d : D), env[i]? = some (.mu d) ∧ σ[i]? = some (some (.ref b))
open Classical in
noncomputable def lend (R H : Hp) (env : Vn) (σ : L2.St) : Hp := fun b => if MuAt env σ b then H b else R b
open Classical in
noncomputable def cutMu (R : Hp) (env : Vn) (σ : L2.St) : Hp := fun b => if MuAt env σ b then none else R b
theorem lend_mu {b : Addr} (h : MuAt env σ b) : lend R H env σ b = H b := if_pos h
theorem lend_no {b : Addr} (h : ¬ MuAt env σ b) : lend R H env σ b = R b := if_neg h
theorem cut_mu {b : Addr} (h : MuAt env σ b) : cutMu R env σ b = none := if_pos h
theorem cut_no {b : Addr} (h : ¬ MuAt env σ b) : cutMu R env σ b = R b := if_neg h
theorem Rep.mu (r : Rep K G B env σ R H) {b : Addr} (h : MuAt env σ b) : R b = none ∧ ∃ y, H b = some y ∧ isLD y = true := by
  obtain ⟨i, d, h1, h2⟩ := h
  obtain ⟨a, y, g1, g2, g3, g4, g5⟩ := r.slots i _ h1
  rw [g1] at h2
  cases h2
  refine ⟨g3, y, g4, ?_⟩
  cases y <;> cases d <;> first | rfl | exact g5.elim
theorem at_cut (hc : ∀ b, MuAt env σ b → ∃ y, R b = some y ∧ isLD y = true) : ∀ (n : Nat) {v : V} {d : D}, D.deepT n d = true → At K R v d → At K (cutMu R env σ) v d := by
  intro n
  induction n with
  | zero => intro v d h _; cases h
  | succ n ih =>
    intro v d h t
    cases t with
    | non => exact .non
    | bl b => exact .bl b
    | int i => exact .int i
    | str x => exact .str x
    | ty n => exact .ty n
    | @tup b xs ds hs ht =>
      have hn : ∀ u, R b = some u → isLD u = false → cutMu R env σ b = R b := fun u e hu => cut_no fun z => by
        obtain ⟨y, h1, h2⟩ := hc b z
        rw [e] at h1
        cases h1
        rw [hu] at h2
        cases h2
      refine .tup (xs := xs) ?_ ?_
      · rcases hs with (hs | ⟨o, hs⟩) | hs
        · exact .inl (.inl (by rw [hn _ hs rfl]; exact hs))
        · exact .inl (.inr ⟨o, by rw [hn _ hs rfl]; exact hs⟩)
        · exact .inr hs
      · have hd : ∀ d ∈ ds, D.deepT n d = true := List.all_eq_true.mp h
        exact ht.imp fun v d hm => ih (hd d hm)
    | lst _ _ => cases h
    | ro _ _ => cases h
    | dct _ _ => cases h
    | lkd _ _ => cases h
    | @st b φ hs =>
      refine .st (φ := φ) ?_
      rw [cut_no]
      · exact hs
      · intro z
        obtain ⟨y, h1, h2⟩ := hc b z
        rw [hs] at h1
        cases h1
        cases h2
def XV.lent : List XV → Option (List D)
  | [] => some []
  | .p d :: r => match XV.lent r with
    | some ds => some (d :: ds)
    | none => none
  | .m _ d :: r => match XV.lent r with
    | some ds => some (d :: ds)
    | none => none
  | .o _ :: _ => none
theorem lent_at (r : Rep K G B env σ R H) : ∀ {vs : List V} {xs : List XV} {ds : List D}, XV.lent xs = some ds → VAtL K B env σ R H vs xs → AtL K (lend R H env σ) vs ds
  | [], [], _, e, _ => by
    cases e
    exact .nil
  | [], _ :: _, _, _, h => h.elim
  | _ :: _, [], _, _, h => h.elim
  | v :: vs, .p d :: xs, ds, e, h => by
    unfold XV.lent at e
    cases q : XV.lent xs with
    | none =>
      rw [q] at e
      cases e
    | some es =>
      rw [q] at e
      cases e
      have s : Same R (lend R H env σ) := fun b x e => by
        rw [lend_no]
        · exact e
        · intro z
          rw [(r.mu z).1] at e
          cases e
      exact .cons (At.same s h.1) (lent_at r q h.2)
  | v :: vs, .m i d :: xs, ds, e, h => by
    unfold XV.lent at e
    cases q : XV.lent xs with
    | none =>
      rw [q] at e
      cases e
    | some es =>
      rw [q] at e
      cases e
      have s : Same R (lend R H env σ) := fun b x e => by
        rw [lend_no]
        · exact e
        · intro z
          rw [(r.mu z).1] at e
          cases e
      refine .cons ?_ (lent_at r q h.2)
      obtain ⟨h1, h2⟩ := h.1
      obtain ⟨a, y, g1, g2, g3, g4, g5⟩ := r.slots i _ h1
      rw [g1] at h2
      cases h2
      have e : lend R H env σ a = some y := (lend_mu ⟨i, d, h1, g1⟩).trans g4
      cases y <;> cases d <;> first
        | exact g5.elim
        | exact .lst e (AtL.same s g5)
        | exact .dct e (AtD.same s g5)
  | _ :: _, .o _ :: _, _, e, _ => by cases e
theorem ve_callM {α : Type} {fr : Bool} {args : α → List D} {pre : α → Prop} {post : α → D → Prop} {rs : α → Addr → Prop} {E : XK} {X : Addr → Prop} {t : TA} (L : Lets G B E X)
    (h : VA K G B t env fun xs => ∃ x, XV.lent xs = some (args x) ∧ pre x ∧ (∀ C, rs x C → X C) ∧ ∀ d, post x d → D.deepT 9 d = true ∧ Q (.p d)) : VE K G B (tCall (SpA K G fr args pre post rs) [] E t) env Q := fun σ R H rp Qh k =>
  h σ R H rp _ fun vs R1 H1 xs r1 s1 hv _ ⟨x, e, hp, hr, q⟩ => by
    rw [List.append_nil]
    have key : ∀ R' H', Step G (lend R1 H1 env σ) H1 R' H' → Step G R1 H1 (cutMu R' env σ) H' := fun R' H' s => {
      same := fun b x e => by
        have nb : ¬ MuAt env σ b := fun z => by
          rw [(r1.mu z).1] at e
          cases e
        rw [cut_no nb]
        exact s.same b x ((lend_no nb).trans e)
      sub := fun b x e => by
        by_cases z : MuAt env σ b
        · rw [cut_mu z] at e
          cases e
        · rw [cut_no z] at e
          exact s.sub b x e
      kept := fun b y e n => s.kept b y e fun φ z => by
        by_cases w : MuAt env σ b
        · rw [lend_mu w, e] at z
          cases z
          obtain ⟨_, y', h1, h2⟩ := r1.mu w
          rw [e] at h1
          cases h1
          cases h2
        · rw [lend_no w] at z
          exact n φ z
      out := fun b y e n => by
        by_cases w : MuAt env σ b
        · exact cut_mu w
        · rw [cut_no w]
          exact s.out b y e ((lend_no w).trans n) }
    have sub : Sub G (lend R1 H1 env σ) H1 := fun b x e => by
      by_cases w : MuAt env σ b
      · rw [lend_mu w] at e
        obtain ⟨_, y, h1, h2⟩ := r1.mu w
        rw [e] at h1
        cases h1
        cases x <;> first | exact e | cases h2
      · rw [lend_no w] at e
        exact r1.sub b x e
    refine ⟨lend R1 H1 env σ, x, sub, lent_at r1 e hv, hp, fun v R' H' d s ha _ hd => ?_, fun C R' H' s hc => L C (cutMu R' env σ) H' (r1.step.trans (key R' H' s)) (hr C hc)⟩
    obtain ⟨fl, q⟩ := q d hd
    have st := key R' H' s
    refine k v (cutMu R' env σ) H' (.p d) (r1.go st) (s1.trans st.same) (at_cut (fun b w => ?_) 9 fl ha) q
    obtain ⟨_, y, h1, h2⟩ := r1.mu w
    exact ⟨y, s.same b y ((lend_mu w).trans h1), h2⟩

/-! ### products, and what stands either way -/
theorem vo_orL {r r' : R2} {x y : XV} (h : VO K G B r env x y Q) : VO K G B (fun x y H Q => r x y H Q ∨ r' x y H Q) env x y Q := fun σ R H rp v w hv hw Qh k => .inl (h σ R H rp v w hv hw Qh k)
theorem vo_orR {r r' : R2} {x y : XV} (h : VO K G B r' env x y Q) : VO K G B (fun x y H Q => r x y H Q ∨ r' x y H Q) env x y Q := fun σ R H rp v w hv hw Qh k => .inr (h σ R H rp v w hv hw Qh k)
theorem vo_mul {i j : Int} (hc : CMul i j ∨ CMulW i j) (q : Q (.p (.int (i * j)))) : VO K G B (fun x y H Q => rI CMul (fun i j => .int (i * j)) x y H Q ∨ rI CMulW (fun i j => .int (i * j)) x y H Q) env (.p (.int i)) (.p (.int j)) Q := by
  rcases hc with hc | hc
  · exact vo_orL (vo_I hc q)
  · exact vo_orR (vo_I hc q)
theorem vo_div {i j : Int} (hc : CDivW i j) (q : Q (.p (.int (i / j)))) : VO K G B (rI CDivW fun i j => .int (i / j)) env (.p (.int i)) (.p (.int j)) Q := vo_I hc q
theorem vo_mod {i j : Int} (hc : 0 < j) (q : Q (.p (.int (i % j)))) : VO K G B (rI (fun _ j => 0 < j) fun i j => .int (i % j)) env (.p (.int i)) (.p (.int j)) Q := vo_I hc q
theorem vo_pow {i j : Int} (hc : CPow i j) (q : Q (.p (.int (i ^ j.toNat)))) : VO K G B (rI CPow fun i j => .int (i ^ j.toNat)) env (.p (.int i)) (.p (.int j)) Q := vo_I hc q

theorem vo_mulq {i j : Int} (q : Q (.p (.int (i * j)))) (hc : CMul i j ∨ CMulW i j) : VO K G B (fun x y H Q => rI CMul (fun i j => .int (i * j)) x y H Q ∨ rI CMulW (fun i j => .int (i * j)) x y H Q) env (.p (.int i)) (.p (.int j)) Q := vo_mul hc q
theorem vo_divq {i j : Int} (q : Q (.p (.int (i / j)))) (hc : CDivW i j) : VO K G B (rI CDivW fun i j => .int (i / j)) env (.p (.int i)) (.p (.int j)) Q := vo_I hc q
theorem vo_modq {i j : Int} (q : Q (.p (.int (i % j)))) (hc : 0 < j) : VO K G B (rI (fun _ j => 0 < j) fun i j => .int (i % j)) env (.p (.int i)) (.p (.int j)) Q := vo_I hc q
theorem vo_ixLq {x : XV} {ds : List D} {i : Int} {d : D} (q : Q (.p d)) (hx : x.seqL = some ds) (hi : atI ds i = some d) : VO K G B (rIxL K) env x (.p (.int i)) Q := vo_ixL hx hi q

/-! ### isinstance -/
theorem ve_ty {n : String} (q : Q (.p (.ty n))) : VE K G B (tC (.ty n)) env Q := fun σ R H r Qh k => k _ R H (.p (.ty n)) r (Same.refl R) (At.ty n) q
def XV.tyOf : XV → Option String
  | .p .non => some "NoneType"
  | .p (.bl _) => some "bool"
  | .p (.int _) => some "int"
  | .p (.str _) => some "str"
  | .p (.tup _) => some "tuple"
  | .p (.lst _) => some "list"
  | .p (.ro _) => some "list"
  | .p (.dct _) => some "dict"
  | .m _ (.lst _) => some "list"
  | .m _ (.dct _) => some "dict"
  | _ => none
theorem tyL {a : Addr} {xs : List V} (h : SqL K H a xs) : TyX K H (.ref a) (.type "list") := by
  rcases h with (h | ⟨o, h⟩) | ⟨o, its, n, h, c, _⟩
  · exact .base (.lst h)
  · exact .base (.frz h)
  · exact .kList h c
theorem tyT {a : Addr} {xs : List V} (h : SqT K H a xs) : TyX K H (.ref a) (.type "tuple") := by
  rcases h with (h | ⟨o, h⟩) | ⟨o, its, n, h, c, _⟩
  · exact .base (.tup h)
  · exact .fTuple h
  · exact .kTuple h c
theorem tyOf_at (r : Rep K G B env σ R H) {v : V} {x : XV} {t : String} (h : VAt K B env σ R H v x) (e : x.tyOf = some t) : TyX K H v (.type t) := by
  cases x with
  | o d => cases e
  | p d =>
    cases d with
    | non => cases e; cases h; exact .base .non
    | bl b => cases e; cases h; exact .base (.bl _)
    | int b => cases e; cases h; exact .base (.int _)
    | str b => cases e; cases h; exact .base (.str _)
    | tup b =>
      cases e
      cases h with
      | tup h _ => exact tyT (r.sub.t h)
    | lst b =>
      cases e
      cases h with
      | lst h _ => exact tyL (r.sub.l (.inl (.inl h)))
    | ro b =>
      cases e
      cases h with
      | ro h _ => exact tyL (r.sub.l h)
    | dct b =>
      cases e
      cases h with
      | dct h _ =>
        exact .base (.dK (r.sub.of h (fun φ z => by cases z)))
    | lkd a b => cases e
    | st => cases e
    | ty n => cases e
  | m i d =>
    obtain ⟨h1, h2⟩ := h
    obtain ⟨a, y, g1, g2, g3, g4, g5⟩ := r.slots i _ h1
    rw [g1] at h2
    cases h2
    cases d <;> cases y <;> first | exact g5.elim | (cases e; exact .base (.lst g4)) | (cases e; exact .base (.dK g4))
theorem vc_isi {x : XV} {t u : String} {b : Bool} (hx : x.tyOf = some t) (hb : kitB t u = some b) (q : Q (.p (.bl b))) : VC K G B (rIsi K) env [x, .p (.ty u)] Q := vc2 fun σ R H r v w hv hw Qh k => by
  cases hw
  exact ⟨v, .ty u, .type t, .type u, b, rfl, .ty u, tyOf_at r hv hx, kit_ty hb, k _ R H (.p (.bl b)) r (Same.refl R) (.bl b) q⟩

/-! ### == of data of any depth -/
mutual
def D.py : D → PyData
  | .non => .none
  | .bl b => .bool b
  | .int i => .int i
  | .str x => .str x
  | .tup ds => .tuple (D.pys ds)
  | .lst ds => .list (D.pys ds)
  | .ro ds => .list (D.pys ds)
  | .dct _ => .none
  | .lkd _ _ => .none
  | .st => .none
  | .ty _ => .none
def D.pys : List D → List PyData
  | [] => []
  | d :: r => D.py d :: D.pys r
end
mutual
/-- what may be compared: no dict, texts of real signs -/
def D.cmp : D → Bool
  | .non => true
  | .bl _ => true
  | .int _ => true
  | .str x => PyData.strOk x
  | .tup ds => D.cmps ds
  | .lst ds => D.cmps ds
  | .ro ds => D.cmps ds
  | .dct _ => false
  | .lkd _ _ => false
  | .st => false
  | .ty _ => false
def D.cmps : List D → Bool
  | [] => true
  | d :: r => D.cmp d && D.cmps r
end
mutual
theorem at_dp (s : Sub G R H) : ∀ {v : V} {d : D}, At K R v d → d.cmp = true → Dp K H v d.py
  | _, _, .non, _ => .non
  | _, _, .bl b, _ => .bl b
  | _, _, .int i, _ => .int i
  | _, _, .str x, _ => .str x
  | _, _, .tup h t, e => by
    simp only [D.cmp] at e
    simp only [D.py]
    exact .tup (s.t h) (at_dps s t e)
  | _, _, .lst h t, e => by
    simp only [D.cmp] at e
    simp only [D.py]
    exact .lst (s.l (.inl (.inl h))) (at_dps s t e)
  | _, _, .ro h t, e => by
    simp only [D.cmp] at e
    simp only [D.py]
    exact .lst (s.l h) (at_dps s t e)
  | _, _, .dct _ _, e => by simp [D.cmp] at e
  | _, _, .lkd _ _, e => by simp [D.cmp] at e
  | _, _, .st _, e => by simp [D.cmp] at e
  | _, _, .ty _, e => by simp [D.cmp] at e
theorem at_dps (s : Sub G R H) : ∀ {vs : List V} {ds : List D}, AtL K R vs ds → D.cmps ds = true → DpAll K H vs (D.pys ds)
  | _, _, .nil, _ => .nil
  | _, _, .cons h t, e => by
    simp only [D.cmps, Bool.and_eq_true] at e
    simp only [D.pys]
    exact .cons (at_dp s h e.1) (at_dps s t e.2)
end
def XV.dat : XV → Option D
  | .p d => some d
  | .m _ (.lst ds) => some (.lst ds)
  | _ => none
theorem dat_dp (r : Rep K G B env σ R H) {v : V} {x : XV} {d : D} (h : VAt K B env σ R H v x) (e : x.dat = some d) (hc : d.cmp = true) : Dp K H v d.py := by
  cases x with
  | p d' => cases e; exact at_dp r.sub h hc
  | o d' => cases e
  | m i d' =>
    cases d' with
    | lst ds =>
      cases e
      obtain ⟨h1, h2⟩ := h
      obtain ⟨a, y, g1, g2, g3, g4, g5⟩ := r.slots i _ h1
      rw [g1] at h2
      cases h2
      cases y with
      | lst xs =>
        simp only [D.cmp] at hc
        simp only [D.py]
        exact .lst (.inl (.inl g4)) (at_dps r.sub g5 hc)
      | _ => exact g5.elim
    | _ => cases e
theorem vo_eqD {x y : XV} {d e : D} (hx : x.dat = some d) (hy : y.dat = some e) (h : d.cmp = true ∧ e.cmp = true ∧ SeqAt.shaped d.py = true ∧ SeqAt.shaped e.py = true) (q : Q (.p (.bl (PyData.eqv d.py e.py)))) : VO K G B (rEqD K) env x y Q := fun σ R H r v w hv hw Qh k =>
  ⟨d.py, e.py, dat_dp r hv hx h.1, dat_dp r hw hy h.2.1, h.2.2.1, h.2.2.2, k _ R H (.p (.bl _)) r (Same.refl R) (.bl _) q⟩
theorem vo_neD {x y : XV} {d e : D} (hx : x.dat = some d) (hy : y.dat = some e) (h : d.cmp = true ∧ e.cmp = true ∧ SeqAt.shaped d.py = true ∧ SeqAt.shaped e.py = true) (q : Q (.p (.bl (!PyData.eqv d.py e.py)))) : VO K G B (rNeD K) env x y Q := fun σ R H r v w hv hw Qh k =>
  ⟨d.py, e.py, dat_dp r hv hx h.1, dat_dp r hw hy h.2.1, h.2.2.1, h.2.2.2, k _ R H (.p (.bl _)) r (Same.refl R) (.bl _) q⟩
/-- comparable, at most so deep -/
def D.cmpN : Nat → D → Bool
  | 0, d => match d with
    | .non => true
    | .bl _ => true
    | .int _ => true
    | .str x => PyData.strOk x
    | _ => false
  | n + 1, d => match d with
    | .non => true
    | .bl _ => true
    | .int _ => true
    | .str x => PyData.strOk x
    | .tup ds => ds.all (D.cmpN n)
    | .lst ds => ds.all (D.cmpN n)
    | .ro ds => ds.all (D.cmpN n)
    | _ => false
theorem cmpN_all {n : Nat} (ih : ∀ d : D, D.cmpN n d = true → d.cmp = true ∧ PyData.canLay0 d.py = true ∧ PyData.depth d.py ≤ n) : ∀ ds : List D, ds.all (D.cmpN n) = true → D.cmps ds = true ∧ PyData.canLayAll0 (D.pys ds) = true ∧ PyData.depthAll (D.pys ds) ≤ n
  | [], _ => by simp [D.cmps, D.pys, PyData.canLayAll0, PyData.depthAll]
  | d :: r, h => by
    rw [List.all_cons, Bool.and_eq_true] at h
    obtain ⟨a1, a2, a3⟩ := ih d h.1
    obtain ⟨b1, b2, b3⟩ := cmpN_all ih r h.2
    simp only [D.cmps, D.pys, PyData.canLayAll0, PyData.depthAll, a1, a2, b1, b2, Bool.and_self, true_and]
    omega
theorem cmpN_ok : ∀ (n : Nat) (d : D), D.cmpN n d = true → d.cmp = true ∧ PyData.canLay0 d.py = true ∧ PyData.depth d.py ≤ n
  | 0, d, h => by
    cases d <;> first
      | (simp [D.cmpN] at h; done)
      | (simp only [D.cmp, D.py, PyData.canLay0, PyData.depth]; simp only [D.cmpN] at h; simp [h])
  | n + 1, d, h => by
    cases d with
    | tup ds =>
      obtain ⟨a1, a2, a3⟩ := cmpN_all (cmpN_ok n) ds h
      simp only [D.cmp, D.py, PyData.canLay0, PyData.depth, a1, a2, true_and]
      omega
    | lst ds =>
      obtain ⟨a1, a2, a3⟩ := cmpN_all (cmpN_ok n) ds h
      simp only [D.cmp, D.py, PyData.canLay0, PyData.depth, a1, a2, true_and]
      omega
    | ro ds =>
      obtain ⟨a1, a2, a3⟩ := cmpN_all (cmpN_ok n) ds h
      simp only [D.cmp, D.py, PyData.canLay0, PyData.depth, a1, a2, true_and]
      omega
    | non => simp [D.cmp, D.py, PyData.canLay0, PyData.depth]
    | bl b => simp [D.cmp, D.py, PyData.canLay0, PyData.depth]
    | int b => simp [D.cmp, D.py, PyData.canLay0, PyData.depth]
    | str x =>
      have h' : PyData.strOk x = true := h
      simp [D.cmp, D.py, PyData.canLay0, PyData.depth, h']
    | dct _ => simp [D.cmpN] at h
    | lkd _ _ => simp [D.cmpN] at h
    | st => simp [D.cmpN] at h
    | ty _ => simp [D.cmpN] at h
theorem cmpN_shaped {d : D} (h : D.cmpN 60 d = true) : d.cmp = true ∧ SeqAt.shaped d.py = true := by
  obtain ⟨a, b, c⟩ := cmpN_ok 60 d h
  refine ⟨a, ?_⟩
  unfold SeqAt.shaped
  rw [b, decide_eq_true (by omega)]
  rfl
def D.eqv (d e : D) : Bool := PyData.eqv d.py e.py
theorem eqv_self {d : D} (h : D.cmpN 60 d = true) : D.eqv d d = true := SeqAt.eqv_refl _ (cmpN_ok 60 d h).2.1
theorem vo_eqN {x y : XV} {d e : D} (hx : x.dat = some d) (hy : y.dat = some e) (h1 : D.cmpN 60 d = true) (h2 : D.cmpN 60 e = true) (q : Q (.p (.bl (D.eqv d e)))) : VO K G B (rEqD K) env x y Q := vo_eqD hx hy ⟨(cmpN_shaped h1).1, (cmpN_shaped h2).1, (cmpN_shaped h1).2, (cmpN_shaped h2).2⟩ q
theorem vo_neN {x y : XV} {d e : D} (hx : x.dat = some d) (hy : y.dat = some e) (h1 : D.cmpN 60 d = true) (h2 : D.cmpN 60 e = true) (q : Q (.p (.bl (!D.eqv d e)))) : VO K G B (rNeD K) env x y Q := vo_neD hx hy ⟨(cmpN_shaped h1).1, (cmpN_shaped h2).1, (cmpN_shaped h1).2, (cmpN_shaped h2).2⟩ q
/-- alike on both sides -/
theorem vo_eqS {x y : XV} {d : D} (hx : x.dat = some d) (hy : y.dat = some d) (h1 : D.cmpN 60 d = true) (q : Q (.p (.bl true))) : VO K G B (rEqD K) env x y Q := vo_eqN hx hy h1 h1 (by rw [eqv_self h1]; exact q)
theorem vo_neS {x y : XV} {d : D} (hx : x.dat = some d) (hy : y.dat = some d) (h1 : D.cmpN 60 d = true) (q : Q (.p (.bl false))) : VO K G B (rNeD K) env x y Q := vo_neN hx hy h1 h1 (by rw [eqv_self h1]; exact q)
theorem cmpN_ints (n : Nat) (ns : List Int) : D.cmpN (n + 1) (.lst (ns.map D.int)) = true := by
  show (ns.map D.int).all (D.cmpN n) = true
  rw [List.all_map]
  exact List.all_eq_true.mpr fun _ _ => by cases n <;> rfl
/-- rows of whole numbers -/
theorem pys_map (f : Int → D) (g : Int → PyData) (h : ∀ i, (f i).py = g i) : ∀ ns : List Int, D.pys (ns.map f) = ns.map g
  | [] => rfl
  | n :: r => by
    simp only [List.map_cons, D.pys, h, pys_map f g h r]
theorem ints_py (ns : List Int) : D.py (.lst (ns.map D.int)) = .list (ns.map PyData.int) := by
  simp only [D.py]
  rw [pys_map D.int PyData.int fun i => by simp only [D.py]]
theorem ints_cmps : ∀ ns : List Int, D.cmps (ns.map D.int) = true
  | [] => by simp only [List.map_nil, D.cmps]
  | n :: r => by simp only [List.map_cons, D.cmps, D.cmp, ints_cmps r, Bool.and_self]
theorem ints_cmp (ns : List Int) : D.cmp (.lst (ns.map D.int)) = true := by simp only [D.cmp]; exact ints_cmps ns
theorem ints_canLay : ∀ ns : List Int, PyData.canLayAll0 (ns.map PyData.int) = true
  | [] => by simp only [List.map_nil, PyData.canLayAll0]
  | n :: r => by simp only [List.map_cons, PyData.canLayAll0, PyData.canLay0, ints_canLay r, Bool.and_self]
theorem ints_eqv : ∀ ns ms : List Int, PyData.eqvAll (ns.map PyData.int) (ms.map PyData.int) = decide (ns = ms)
  | [], [] => by simp [PyData.eqvAll]
  | [], m :: ms => by simp [PyData.eqvAll]
  | n :: ns, [] => by simp [PyData.eqvAll]
  | n :: ns, m :: ms => by
    simp only [List.map_cons, PyData.eqvAll, PyData.eqv, ints_eqv ns ms]
    by_cases h : n = m
    · subst h
      simp
    · simp [h]
theorem ints_eq (ns ms : List Int) : PyData.eqv (D.py (.lst (ns.map D.int))) (D.py (.lst (ms.map D.int))) = decide (ns = ms) := by
  rw [ints_py, ints_py]
  simp only [PyData.eqv]
  exact ints_eqv ns ms

/-! ### enumerate, zip, reversed, a text sign by sign -/
def XV.seqP : XV → Option (List D)
  | .p (.lst ds) => some ds
  | .p (.ro ds) => some ds
  | _ => none
theorem seqP_at {v : V} {x : XV} {ds : List D} (h : VAt K B env σ R H v x) (e : x.seqP = some ds) : ∃ a xs, v = .ref a ∧ SqL K R a xs ∧ AtL K R xs ds := by
  cases x with
  | p d =>
    cases d with
    | lst es =>
      cases e
      cases h with
      | @lst a xs _ h1 h2 => exact ⟨a, xs, rfl, .inl (.inl h1), h2⟩
    | ro es =>
      cases e
      cases h with
      | @ro a xs _ h1 h2 => exact ⟨a, xs, rfl, h1, h2⟩
    | _ => cases e
  | o d => cases e
  | m i d => cases e
theorem vi_l {tl : TE} (h : VE K G B tl env fun x => x.fz fun x => ∃ ds, x.seqP = some ds ∧ Ql ds) : VI K G B (iList K tl) env Ql := vi_list fun σ R H r Qh k => h σ R H r Qh fun v R' H' x r' s' hv q => k v R' H' x r' s' hv (by
  have f : ∀ x : XV, (∃ ds, x.seqP = some ds ∧ Ql ds) → ∃ ds, (x = .p (.lst ds) ∨ x = .p (.ro ds)) ∧ Ql ds := fun x ⟨ds, e, q⟩ => by
    cases x with
    | p d =>
      cases d with
      | lst es => cases e; exact ⟨_, .inl rfl, q⟩
      | ro es => cases e; exact ⟨_, .inr rfl, q⟩
      | _ => cases e
    | o d => cases e
    | m i d => cases e
  cases x with
  | p d => exact f _ q
  | o d => exact f _ q
  | m i d => exact f _ q)
def enumD (ds : List D) : List D := (List.range ds.length).map fun i => D.tup [.int (i : Nat), ds.getD i .non]
theorem enumD_get {ds : List D} {i : Nat} {d : D} (h : (enumD ds)[i]? = some d) : ∃ e, ds[i]? = some e ∧ d = .tup [.int (i : Nat), e] := by
  unfold enumD at h
  rw [List.getElem?_map] at h
  by_cases hi : i < ds.length
  · rw [List.getElem?_range hi] at h
    cases h
    exact ⟨ds[i], List.getElem?_eq_getElem hi, by show D.tup [.int (i : Nat), ds.getD i .non] = _; rw [List.getD_eq_getElem?_getD, List.getElem?_eq_getElem hi]; rfl⟩
  · rw [List.getElem?_eq_none_iff.mpr (by rw [List.length_range]; omega)] at h
    cases h
theorem enumD_len (ds : List D) : (enumD ds).length = ds.length := by
  unfold enumD
  rw [List.length_map, List.length_range]
theorem wk_enum {a : Addr} {xs : List V} {ds : List D} (hl : SqL K R a xs) (ha : AtL K R xs ds) : Wk K G B R (Ite K a) (enumD ds) where
  go := fun B e σ R' H' r s i d hi => by
    obtain ⟨d1, h1, rfl⟩ := enumD_get hi
    obtain ⟨v, hv, hd⟩ := ha.get h1
    have hL := r.sub.l (same_l s hl)
    refine ⟨⟨xs, v, hL, hv⟩, ?_⟩
    rintro w H2 ⟨T, x, rfl, hT, rfl, hx⟩
    have e := hx xs hL
    rw [hv] at e
    cases e
    have hn := r.sub.none hT
    exact ⟨_, r.newP hT (fun φ z => by cases z), same_take hn, .tup (.inl (.inl upd_same)) (.cons (.int _) (.cons ((hd.same s).same (same_take hn)) .nil))⟩
  stop := fun B e σ R' H' r s => ⟨xs, r.sub.l (same_l s hl), by rw [enumD_len, ha.len]; exact Nat.le_refl _⟩
theorem vi_enum {ta : TA} (h : VA K G B ta env fun xs => ∃ x ds, xs = [x] ∧ x.seqP = some ds ∧ Ql (enumD ds)) : VI K G B (iEnum K ta) env Ql := fun σ R H r Qh k =>
  h σ R H r _ fun vs R1 H1 xs r1 s1 hv _ ⟨x, ds, e, hx, q⟩ => by
    subst e
    match vs, hv with
    | [v], hv =>
      obtain ⟨a, ys, rfl, h1, h2⟩ := seqP_at hv.1 hx
      exact ⟨a, ys, rfl, r1.sub.l h1, k _ R1 H1 _ r1 s1 (wk_enum h1 h2) q⟩
def zipD (ds es : List D) : List D := (ds.zip es).map fun p => .tup [p.1, p.2]
theorem zipD_get {ds es : List D} {i : Nat} {d : D} (h : (zipD ds es)[i]? = some d) : ∃ a b, ds[i]? = some a ∧ es[i]? = some b ∧ d = .tup [a, b] := by
  unfold zipD at h
  rw [List.getElem?_map] at h
  cases e : (ds.zip es)[i]? with
  | none =>
    rw [e] at h
    cases h
  | some p =>
    rw [e] at h
    cases h
    obtain ⟨h1, h2⟩ := List.getElem?_zip_eq_some.mp e
    exact ⟨_, _, h1, h2, rfl⟩
theorem zipD_len (ds es : List D) : (zipD ds es).length = min ds.length es.length := by
  unfold zipD
  rw [List.length_map, List.length_zip]
theorem wk_zip {a b : Addr} {xs ys : List V} {ds es : List D} (hl : SqL K R a xs) (ha : AtL K R xs ds) (hl' : SqL K R b ys) (ha' : AtL K R ys es) : Wk K G B R (Itz K a b) (zipD ds es) where
  go := fun B e σ R' H' r s i d hi => by
    obtain ⟨d1, d2, h1, h2, rfl⟩ := zipD_get hi
    obtain ⟨v, hv, hd⟩ := ha.get h1
    obtain ⟨w, hw, he⟩ := ha'.get h2
    have hL := r.sub.l (same_l s hl)
    have hL' := r.sub.l (same_l s hl')
    refine ⟨⟨xs, ys, v, w, hL, hL', hv, hw⟩, ?_⟩
    rintro u H2 ⟨T, x, y, rfl, hT, rfl, hx, hy⟩
    have e := hx xs hL
    rw [hv] at e
    cases e
    have e := hy ys hL'
    rw [hw] at e
    cases e
    have hn := r.sub.none hT
    exact ⟨_, r.newP hT (fun φ z => by cases z), same_take hn, .tup (.inl (.inl upd_same)) (.cons ((hd.same s).same (same_take hn)) (.cons ((he.same s).same (same_take hn)) .nil))⟩
  stop := fun B e σ R' H' r s => ⟨xs, ys, r.sub.l (same_l s hl), r.sub.l (same_l s hl'), by rw [zipD_len, ha.len, ha'.len]; omega⟩
theorem vi_zip {ta : TA} (h : VA K G B ta env fun xs => ∃ x y ds es, xs = [x, y] ∧ x.seqP = some ds ∧ y.seqP = some es ∧ Ql (zipD ds es)) : VI K G B (iZip K ta) env Ql := fun σ R H r Qh k =>
  h σ R H r _ fun vs R1 H1 xs r1 s1 hv _ ⟨x, y, ds, es, e, hx, hy, q⟩ => by
    subst e
    match vs, hv with
    | [v, w], hv =>
      obtain ⟨a, ys, rfl, h1, h2⟩ := seqP_at hv.1 hx
      obtain ⟨b, zs, rfl, g1, g2⟩ := seqP_at hv.2.1 hy
      exact ⟨a, b, ys, zs, rfl, r1.sub.l h1, r1.sub.l g1, k _ R1 H1 _ r1 s1 (wk_zip h1 h2 g1 g2) q⟩
def signsD (z : Str) : List D := z.cps.toList.map fun c => .str ⟨#[c]⟩
theorem wk_str {z : Str} : Wk K G B R (Its z) (signsD z) where
  go := fun B e σ R' H' r s i d hi => by
    unfold signsD at hi
    rw [List.getElem?_map] at hi
    cases q : z.cps.toList[i]? with
    | none =>
      rw [q] at hi
      cases hi
    | some c =>
      rw [q] at hi
      cases hi
      have q' : z.cps[i]? = some c := by rw [← Array.getElem?_toList]; exact q
      refine ⟨(Array.getElem?_eq_some_iff.mp q').1, ?_⟩
      rintro w H2 ⟨rfl, c', hc, rfl⟩
      rw [q'] at hc
      cases hc
      exact ⟨R', r, Same.refl _, .str _⟩
  stop := fun B e σ R' H' r s => by
    show z.cps.size ≤ (signsD z).length
    unfold signsD
    rw [List.length_map, Array.length_toList]
    exact Nat.le_refl _
theorem vi_str {te : TE} (h : VE K G B te env fun x => ∃ z, x = .p (.str z) ∧ Ql (signsD z)) : VI K G B (iStr te) env Ql := fun σ R H r Qh k =>
  h σ R H r _ fun v R1 H1 x r1 s1 hv ⟨z, e, q⟩ => by
    subst e
    exact ⟨z, str_at hv, k _ R1 H1 _ r1 s1 wk_str q⟩
theorem wk_rev {a : Addr} {xs : List V} {ds : List D} (hl : SqL K R a xs) (ha : AtL K R xs ds) : Wk K G B R (Itv K a xs.length) ds.reverse where
  go := fun B e σ R' H' r s i d hi => by
    have hlt : i < ds.reverse.length := (List.getElem?_eq_some_iff.mp hi).1
    rw [List.length_reverse] at hlt
    rw [List.getElem?_reverse hlt] at hi
    obtain ⟨v, hv, hd⟩ := ha.get hi
    have hL := r.sub.l (same_l s hl)
    have hv' : xs[xs.length - 1 - i]? = some v := by rw [ha.len]; exact hv
    refine ⟨⟨by rw [ha.len]; exact hlt, xs, v, hL, hv'⟩, ?_⟩
    rintro w H2 ⟨rfl, hx⟩
    have e := hx xs hL
    rw [hv'] at e
    cases e
    exact ⟨R', r, Same.refl _, hd.same s⟩
  stop := fun B e σ R' H' r s => by
    show xs.length ≤ ds.reverse.length
    rw [List.length_reverse, ha.len]
    exact Nat.le_refl _
theorem vi_rev {ta : TA} (h : VA K G B ta env fun xs => ∃ x ds, xs = [x] ∧ x.seqP = some ds ∧ Ql ds.reverse) : VI K G B (iRev K ta) env Ql := fun σ R H r Qh k =>
  h σ R H r _ fun vs R1 H1 xs r1 s1 hv _ ⟨x, ds, e, hx, q⟩ => by
    subst e
    match vs, hv with
    | [v], hv =>
      obtain ⟨a, ys, rfl, h1, h2⟩ := seqP_at hv.1 hx
      exact ⟨a, ys, rfl, r1.sub.l h1, k _ R1 H1 _ r1 s1 (wk_rev h1 h2) q⟩

/-! ### dicts -/
def valD (kds : List (Key × D)) (k : Key) : Option D := (kds.find? fun kv => decide (kv.1 = k)).map (·.2)
def putD (kds : List (Key × D)) (k : Key) (v : D) : List (Key × D) :=
  if (kds.any fun kv => decide (kv.1 = k)) = true then kds.map (fun kv => if kv.1 = k then (kv.1, v) else kv) else kds ++ [(k, v)]
def keyD : Key → D
  | .inl i => .int i
  | .inr x => .str x
theorem key_at {v : V} {k : Key} (h : At K R v (keyD k)) : v = kV k := by
  cases k with
  | inl i =>
    have h' : At K R v (.int i) := h
    cases h'
    rfl
  | inr x =>
    have h' : At K R v (.str x) := h
    cases h'
    rfl
theorem AtD.val : ∀ {vs : List (Key × V)} {ds : List (Key × D)} {k : Key}, AtD K R vs ds → (∀ d, valD ds k = some d → ∃ v, valV vs k = some v ∧ At K R v d) ∧ (valD ds k = none → valV vs k = none)
  | _, _, _, .nil => ⟨fun d h => (by cases h), fun _ => rfl⟩
  | _, _, k, .cons (k := j) (v := v) (d := d) (vs := vs) (ds := ds) h t => by
    have ih := AtD.val (k := k) t
    by_cases e : j = k
    · have e1 : valD ((j, d) :: ds) k = some d := by simp [valD, List.find?_cons, e]
      have e2 : valV ((j, v) :: vs) k = some v := by simp [valV, List.find?_cons, e]
      rw [e1, e2]
      exact ⟨fun d' h' => (by cases h'; exact ⟨v, rfl, h⟩), fun h' => (by cases h')⟩
    · have e1 : valD ((j, d) :: ds) k = valD ds k := by simp [valD, List.find?_cons, e]
      have e2 : valV ((j, v) :: vs) k = valV vs k := by simp [valV, List.find?_cons, e]
      rw [e1, e2]
      exact ih
theorem AtD.any : ∀ {vs : List (Key × V)} {ds : List (Key × D)} {k : Key}, AtD K R vs ds → (vs.any fun kv => decide (kv.1 = k)) = (ds.any fun kv => decide (kv.1 = k))
  | _, _, _, .nil => rfl
  | _, _, k, .cons h t => by rw [List.any_cons, List.any_cons, AtD.any t]
theorem AtD.app : ∀ {vs ws : List (Key × V)} {ds es : List (Key × D)}, AtD K R vs ds → AtD K R ws es → AtD K R (vs ++ ws) (ds ++ es)
  | _, _, _, _, .nil, s => s
  | _, _, _, _, .cons h t, s => .cons h (AtD.app t s)
theorem AtD.mapput {k : Key} {v : V} {d : D} (h : At K R v d) : ∀ {vs : List (Key × V)} {ds : List (Key × D)}, AtD K R vs ds → AtD K R (vs.map fun kv => if kv.1 = k then (kv.1, v) else kv) (ds.map fun kv => if kv.1 = k then (kv.1, d) else kv)
  | _, _, .nil => .nil
  | _, _, .cons (k := j) h' t => by
    rw [List.map_cons, List.map_cons]
    by_cases e : j = k
    · simp only [if_pos e]
      exact .cons h (AtD.mapput h t)
    · simp only [if_neg e]
      exact .cons h' (AtD.mapput h t)
theorem AtD.put {k : Key} {v : V} {d : D} (h : At K R v d) {vs : List (Key × V)} {ds : List (Key × D)} (t : AtD K R vs ds) : AtD K R (putK vs k v) (putD ds k d) := by
  unfold putK putD
  rw [t.any]
  split
  · exact AtD.mapput h t
  · exact t.app (.cons h .nil)
theorem AtD.len : ∀ {vs : List (Key × V)} {ds : List (Key × D)}, AtD K R vs ds → vs.length = ds.length
  | _, _, .nil => rfl
  | _, _, .cons _ t => congrArg (· + 1) (AtD.len t)
/-- a dict is read: plain, or a slot's -/
def XV.dctD : XV → Option (List (Key × D))
  | .p (.dct ds) => some ds
  | .p (.lkd _ ds) => some ds
  | .m _ (.dct ds) => some ds
  | _ => none
theorem dctD_at (r : Rep K G B env σ R H) {v : V} {x : XV} {ds : List (Key × D)} (h : VAt K B env σ R H v x) (e : x.dctD = some ds) : ∃ a xs, v = .ref a ∧ Rd H a (.dK xs) ∧ AtD K R xs ds := by
  cases x with
  | p d =>
    cases d with
    | dct es =>
      cases e
      cases h with
      | @dct a xs _ h1 h2 => exact ⟨a, xs, rfl, .inl (r.sub.of h1 (fun φ z => by cases z)), h2⟩
    | lkd b es =>
      cases e
      cases h with
      | @lkd a o xs _ h1 h2 => exact ⟨_, xs, rfl, .inr ⟨o, r.sub.of h1 (fun φ z => by cases z)⟩, h2⟩
    | _ => cases e
  | o d => cases e
  | m i d =>
    cases d with
    | dct es =>
      cases e
      obtain ⟨h1, h2⟩ := h
      obtain ⟨a, y, g1, g2, g3, g4, g5⟩ := r.slots i _ h1
      rw [g1] at h2
      cases h2
      cases y with
      | dK xs => exact ⟨a, xs, rfl, .inl g4, g5⟩
      | _ => exact g5.elim
    | _ => cases e
theorem ve_dget {td ty : TE} (h : VE K G B td env fun x => x.fz fun x => VE K G B ty env fun y => y.fz fun y => ∃ ds k d, x.dctD = some ds ∧ y = .p (keyD k) ∧ valD ds k = some d ∧ Q (.p d)) : VE K G B (tDGet td ty) env Q := fun σ R H r Qh k =>
  h σ R H r _ fun v R1 H1 x r1 s1 hv q => by
    obtain ⟨R2, x', r2, s2, hv2, ho, q2⟩ := hv.fz r1 q
    refine q2 σ R2 H1 r2 _ fun w R3 H3 y r3 s3 hw q3 => ?_
    obtain ⟨R4, y', r4, s4, hw4, ho4, ds, k', d, hx, rfl, hd, q4⟩ := hw.fz r3 q3
    obtain ⟨a, xs, rfl, h1, h2⟩ := dctD_at r4 (hv2.go ho (s3.trans s4)) hx
    obtain ⟨z, hz, hzd⟩ := (h2.val (k := k')).1 d hd
    exact ⟨a, z, rfl, .inl ⟨xs, k', h1, key_at hw4, hz.symm⟩, k z R4 H3 (.p d) r4 (((s1.trans s2).trans s3).trans s4) hzd q4⟩
theorem ve_din {ty td : TE} (h : VE K G B ty env fun y => y.fz fun y => VE K G B td env fun x => x.fz fun x => ∃ ds k, x.dctD = some ds ∧ y = .p (keyD k) ∧ Q (.p (.bl (valD ds k).isSome))) : VE K G B (tDIn ty td) env Q := fun σ R H r Qh k =>
  h σ R H r _ fun v R1 H1 x r1 s1 hv q => by
    obtain ⟨R2, x', r2, s2, hv2, ho, q2⟩ := hv.fz r1 q
    refine q2 σ R2 H1 r2 _ fun w R3 H3 y r3 s3 hw q3 => ?_
    obtain ⟨R4, y', r4, s4, hw4, ho4, ds, k', hx, rfl, q4⟩ := hw.fz r3 q3
    obtain ⟨a, xs, rfl, h1, h2⟩ := dctD_at r4 hw4 hx
    have e : (valV xs k').isSome = (valD ds k').isSome := by
      cases q : valD ds k' with
      | none =>
        rw [(h2.val (k := k')).2 q]
        rfl
      | some d =>
        obtain ⟨z, hz, _⟩ := (h2.val (k := k')).1 d q
        rw [hz]
        rfl
    exact ⟨a, _, rfl, .inl ⟨xs, k', h1, key_at (R := R4) (VAt.go (H' := H3) hv2 ho (s3.trans s4)), rfl⟩, by rw [e]; exact k _ R4 H3 (.p (.bl _)) r4 (((s1.trans s2).trans s3).trans s4) (.bl _) q4⟩
theorem ve_dnotin {ty td : TE} (h : VE K G B ty env fun y => y.fz fun y => VE K G B td env fun x => x.fz fun x => ∃ ds k, x.dctD = some ds ∧ y = .p (keyD k) ∧ Q (.p (.bl (!(valD ds k).isSome)))) : VE K G B (tDNotIn ty td) env Q := fun σ R H r Qh k =>
  h σ R H r _ fun v R1 H1 x r1 s1 hv q => by
    obtain ⟨R2, x', r2, s2, hv2, ho, q2⟩ := hv.fz r1 q
    refine q2 σ R2 H1 r2 _ fun w R3 H3 y r3 s3 hw q3 => ?_
    obtain ⟨R4, y', r4, s4, hw4, ho4, ds, k', hx, rfl, q4⟩ := hw.fz r3 q3
    obtain ⟨a, xs, rfl, h1, h2⟩ := dctD_at r4 hw4 hx
    have e : (valV xs k').isSome = (valD ds k').isSome := by
      cases q : valD ds k' with
      | none =>
        rw [(h2.val (k := k')).2 q]
        rfl
      | some d =>
        obtain ⟨z, hz, _⟩ := (h2.val (k := k')).1 d q
        rw [hz]
        rfl
    exact ⟨a, _, rfl, .inl ⟨xs, k', h1, key_at (R := R4) (VAt.go (H' := H3) hv2 ho (s3.trans s4)), rfl⟩, by rw [e]; exact k _ R4 H3 (.p (.bl _)) r4 (((s1.trans s2).trans s3).trans s4) (.bl _) q4⟩
/-- d[k] = v, d the dict of a slot -/
theorem vs_dput {i : Nat} {ty tv : TE} {ds : List (Key × D)} (hd : env[i]? = some (.mu (.dct ds))) (h : VE K G B tv env fun x => x.fz fun x => ∃ d, x = .p d ∧ VE K G B ty env fun y => ∃ k, y = .p (keyD k) ∧ ds.length < 100000 ∧ nx (env.set i (.mu (.dct (putD ds k d))))) :
    VS K G B (sDPut (tVar i) ty tv) env nx rt bk ct := fun σ R H r Z kn _ _ _ =>
  h σ R H r _ fun v R1 H1 x r1 s1 hv q => by
    obtain ⟨R2, x', r2, s2, hv2, ho, d, rfl, q2⟩ := hv.fz r1 q
    obtain ⟨a, y, h1, _⟩ := r2.slots i _ hd
    refine ⟨.ref a, h1, q2 σ R2 H1 r2 _ fun w R3 H3 y' r3 s3 hw ⟨k', e, hl, q3⟩ => ?_⟩
    subst e
    obtain ⟨b, y, g1, g2, g3, g4, g5⟩ := r3.slots i _ hd
    rw [h1] at g1
    cases g1
    obtain ⟨ys, rfl⟩ : ∃ xs, y = .dK xs := by cases y <;> first | exact ⟨_, rfl⟩ | exact g5.elim
    have g6 : AtD K R3 ys ds := g5
    refine ⟨a, _, rfl, .inl ⟨ys, k', g4, key_at hw, by rw [g6.len]; exact Nat.lt_of_lt_of_le hl (by decide), rfl⟩, ?_⟩
    exact kn _ σ R3 _ (r3.mut hd h1 (y := .dK (putK ys k' v)) (d' := .dct (putD ds k' d)) (g6.put (At.same s3 hv2))) ((s1.trans s2).trans s3) q3
/-- d[k] op= v -/
theorem vs_daug {i : Nat} {ty tv : TE} {rd : V → V → Hp → VK → Prop} {ds : List (Key × D)} (hd : env[i]? = some (.mu (.dct ds))) (h : VE K G B ty env fun y => ∃ k d, y = .p (keyD k) ∧ valD ds k = some d ∧ ds.length < 100000 ∧
      VE K G B tv env fun x => x.fz fun x => VO K G B rd env (.p d) x fun z => ∃ e, z = .p e ∧ nx (env.set i (.mu (.dct (putD ds k e))))) :
    VS K G B (sDAug (tVar i) ty tv rd) env nx rt bk ct := fun σ R H r Z kn _ _ _ => by
  obtain ⟨a, y, h1, _⟩ := r.slots i _ hd
  refine ⟨.ref a, h1, h σ R H r _ fun w R1 H1 x r1 s1 hw ⟨k', d, e, hk, hl, q⟩ => ?_⟩
  subst e
  obtain ⟨b, y, g1, g2, g3, g4, g5⟩ := r1.slots i _ hd
  rw [h1] at g1
  cases g1
  obtain ⟨ys, rfl⟩ : ∃ xs, y = .dK xs := by cases y <;> first | exact ⟨_, rfl⟩ | exact g5.elim
  have g6 : AtD K R1 ys ds := g5
  obtain ⟨z, hz, hzd⟩ := (g6.val (k := k')).1 d hk
  refine ⟨a, z, rfl, .inl ⟨ys, k', .inl g4, key_at hw, hz.symm⟩, q σ R1 H1 r1 _ fun v R2 H2 x r2 s2 hv q2 => ?_⟩
  obtain ⟨R3, x', r3, s3, hv3, ho, q3⟩ := hv.fz r2 q2
  refine q3 σ R3 H2 r3 z v (hzd.same (s2.trans s3)) hv3 _ fun u R4 H4 x4 r4 s4 hu ⟨e, he, q4⟩ => ?_
  subst he
  obtain ⟨b, y, f1, f2, f3, f4, f5⟩ := r4.slots i _ hd
  rw [h1] at f1
  cases f1
  obtain ⟨zs, rfl⟩ : ∃ xs, y = .dK xs := by cases y <;> first | exact ⟨_, rfl⟩ | exact f5.elim
  have f6 : AtD K R4 zs ds := f5
  refine ⟨_, .inl ⟨zs, k', f4, key_at hw, by rw [f6.len]; exact Nat.lt_of_lt_of_le hl (by decide), rfl⟩, ?_⟩
  exact kn _ σ R4 _ (r4.mut hd h1 (y := .dK (putK zs k' u)) (d' := .dct (putD ds k' e)) (f6.put hu)) (((s1.trans s2).trans s3).trans s4) q4

/-! ### a list that is drawn from -/
theorem sub_mark (s : Sub G R H) {a : Addr} {ns : List Int} (h : H a = some (.lst (ns.map V.int))) (g : G ns) : Sub G (upd R a (.ext fun _ => False)) H := fun b x e => by
  by_cases hb : b = a
  · subst hb
    rw [upd_same] at e
    cases e
    exact ⟨ns, h, g⟩
  · rw [upd_ne hb] at e
    exact s b x e
theorem vs_toSt (i : Nat) {t : TS} {ns : List Int} (hd : env[i]? = some (.mu (.lst (ns.map D.int)))) (g : G ns) (h : VS K G B t (env.set i (.p .st)) nx rt bk ct) : VS K G B t env nx rt bk ct := fun σ R H r Z kn kr kb kc => by
  obtain ⟨a, y, h1, h2, h3, h4, h5⟩ := r.slots i _ hd
  have hi : i < env.length := (List.getElem?_eq_some_iff.mp hd).1
  obtain ⟨xs, rfl⟩ : ∃ xs, y = .lst xs := by cases y <;> first | exact ⟨_, rfl⟩ | exact h5.elim
  have ex : xs = ns.map V.int := AtL.ints_inv h5
  subst ex
  have e1 : σ.set i (some (.ref a)) = σ := by
    apply List.ext_getElem?
    intro j
    by_cases e : i = j
    · subst e
      rw [List.getElem?_set_self (r.ilt hi), h1]
    · rw [List.getElem?_set_ne e]
  have r1 : Rep K G B (env.set i .u) σ R H := by
    have := r.set (i := i) (sl := .u) (v := .ref a) hi trivial fun d z => by cases z
    rw [e1] at this
    exact this
  have hs : ∀ (j : Nat) e, (env.set i .u)[j]? = some (.mu e) → σ[j]? ≠ some (some (.ref a)) := fun j e hj => by
    by_cases q : i = j
    · subst q
      rw [List.getElem?_set_self hi] at hj
      cases hj
    · rw [List.getElem?_set_ne q] at hj
      rw [← h1]
      exact fun z => r.dist i j _ _ q hd hj z.symm
  have hp : ∀ q ∈ B.pr, q.1 ≠ a := fun q hq w => (r.pr q hq).2.2.2 i _ hd (by rw [w]; exact h1)
  have st := same_take (o := HO.ext fun _ => False) h3
  have r2 : Rep K G B (env.set i .u) σ (upd R a (.ext fun _ => False)) H := {
    sub0 := r1.sub0
    step := {
      same := r1.step.same.trans st
      sub := sub_mark r1.sub h4 g
      kept := r1.step.kept
      out := fun b y e n => by
        rw [upd_ne (ne_of_none e h2)]
        exact r1.step.out b y e n }
    len := r1.len
    dist := r1.dist
    pr := fun q hq => by
      obtain ⟨g1, g2, g3, g4⟩ := r1.pr q hq
      exact ⟨g1, by rw [upd_ne (hp q hq)]; exact g2, g3, g4⟩
    slots := fun j sl q => by
      have := r1.slots j sl q
      cases sl with
      | u => trivial
      | p d =>
        obtain ⟨v, f1, f2⟩ := this
        exact ⟨v, f1, f2.same st⟩
      | mu d =>
        obtain ⟨b, y, f1, f2, f3, f4, f5⟩ := this
        have hb : b ≠ a := fun z => by
          subst z
          exact hs j d q f1
        exact ⟨b, y, f1, f2, by rw [upd_ne hb]; exact f3, f4, f5.same st⟩ }
  have r3 := r2.set (i := i) (sl := .p .st) (v := .ref a) (by rw [List.length_set]; exact hi) ⟨.ref a, List.getElem?_set_self (r.ilt hi), .st upd_same⟩ fun d z => by cases z
  rw [e1, List.set_set] at r3
  exact h σ _ H r3 Z (fun e σ' R2 H2 r2 s2 => kn e σ' R2 H2 r2 (st.trans s2)) (fun v e σ' R2 H2 x r2 s2 => kr v e σ' R2 H2 x r2 (st.trans s2)) (fun e σ' R2 H2 r2 s2 => kb e σ' R2 H2 r2 (st.trans s2)) (fun e σ' R2 H2 r2 s2 => kc e σ' R2 H2 r2 (st.trans s2))
/-- the promise of a def that draws from the list handed in first -/
theorem st_at {v : V} (h : At K R v .st) : ∃ a φ, v = .ref a ∧ R a = some (.ext φ) := by
  cases h with
  | @st a φ h => exact ⟨a, φ, rfl, h⟩
/-- the list that is drawn from has changed -/
theorem step_st (s : Sub G R H) {a : Addr} {φ : Heap → Prop} (ha : R a = some (.ext φ)) {ns : List Int} (g : G ns) : Step G R H R (upd H a (.lst (ns.map V.int))) where
  same := Same.refl R
  sub := fun b x e => by
    by_cases hb : b = a
    · subst hb
      rw [ha] at e
      cases e
      exact ⟨ns, upd_same, g⟩
    · have := s b x e
      cases x <;> simp only [SubAt] at this ⊢ <;> first
        | (rw [upd_ne hb]; exact this; done)
        | (obtain ⟨ms, q, g⟩ := this; exact ⟨ms, by rw [upd_ne hb]; exact q, g⟩)
  kept := fun b y e n => by
    rw [upd_ne]
    · exact e
    · rintro rfl
      exact n φ ha
  out := fun _ _ _ n => n
end
/-- += on an item of a list -/
theorem get_list {X : Cx} : PGet X (rIxL X.K) := by
  intro pins s σ H x y v u Q I rx ry h
  obtain ⟨p, xs, i, z, rfl, rfl, hq, he, q⟩ := h
  cases rx
  obtain ⟨t, rfl⟩ := ry
  obtain ⟨its, r, pl, hz⟩ := I.list hq
  obtain ⟨j, h1, h2, h3, h4, h5⟩ := atI_get he
  obtain ⟨w, ew, rw'⟩ := r.get h2
  have hl := r.length
  have hn := line63
  have fin : EP X pins σ Q w s := ⟨z, H, I, rw', q⟩
  by_cases h0 : 0 ≤ i
  · have hj : i.toNat = j := by
      rw [seqIndex_of h0 h5] at h1
      exact Option.some.inj h1
    exact wpAny_getItem_list pl.isList h0 (by omega) (by rw [hj]; simpa using ew) fin
  · have hj : (i + (its.toArray.size : Int)).toNat = j := by
      rw [seqIndex_neg (by omega) h4] at h1
      rw [List.size_toArray, ← hl]
      exact Option.some.inj h1
    exact wpAny_getItem_list_neg pl.isList (by omega) (by rw [List.size_toArray] <;> omega) (by omega) (by rw [hj]; simpa using ew) fin
/-! ### a law's text -/
/-- a def that lets nothing out, as it stands behind the top -/
structure Cal (P : Program) (w : World) (K : PySem.W.Frag) (mg : Str → Option Value) (base : Heap) (k : Nat) (x : Str) (sp : Sp) (dvs : List V) : Prop where
  ex : ∃ (f : Addr) (fd : FuncData) (ps : List Str) (ds : List Value), FnOk P w K mg base CX0 k f fd ps sp ∧ mg x = some (.ref f) ∧ PySem.W.keepIn K (.ref f) = true ∧ Binds K fd ps ds ∧ Vals dvs ds
theorem pe_c {X : Cx} {k j : Nat} {x : Str} {p pos : Pos} {e : Expr} {es : List Expr} {sp : Sp} {dvs : List V} {t : TA} (c : Cal X.prog X.w X.K X.mg X.base k x sp dvs) (hr : Room j X.A) (hk : k ≤ j) (hg : Gl X x) (ha : PA X (e :: es) t)
    (hdb : (x == ("__debug__" : Str)) = false := by decide) (he : starEach (e :: es) X.env = (false, eval e X.env) :: starEach es X.env := by rfl) (hpl : (backTo pos (starEach es X.env)).any (·.1) = false := by rfl) :
    PE X (.Call (.Name x p) (e :: es) [] pos) (tCall sp dvs E0 t) := by
  obtain ⟨f, fd, ps, ds, F, hm, kp, b, d⟩ := c.ex
  exact pe_call F (hr.mono hk) hg hm kp b d pass0 ha hdb he hpl
structure Dfn (K : PySem.W.Frag) (mg : Str → Option Value) (x : Str) (st : Stmt) (ps : List Str) : Prop where
  ex : ∃ f fd, Fun K x x st f fd ∧ mg x = some (.ref f) ∧ Binds K fd ps []
/-- a script is handed in, True comes back -/
def spLaw (K : PySem.W.Frag) : Sp := fun vs H Q _ => ∃ (a : Addr) (ns : List Int), vs = [.ref a] ∧ SqL K H a (ns.map V.int) ∧ ns.length ≤ 63 ∧ ∀ H', Q (.bl true) H'
theorem law_of {G : List Int → Prop} {P : Program} {w : World} {K : PySem.W.Frag} {mg : Str → Option Value} {base : Heap} {CX : CXT} {k : Nat} {f : Addr} {fd : FuncData} {ps : List Str}
    (F : FnOk P w K mg base CX k f fd ps (SpA K G false (fun ns : List Int => [.ro (ns.map D.int)]) (fun ns => ns.length ≤ 63) (fun _ d => d = .bl true) noRs)) : FnOk P w K mg base CX k f fd ps (spLaw K) :=
  F.imp fun vs H Q E ⟨a, ns, e, hS, hl, q⟩ => by
    subst e
    have key : ∃ R : Hp, Sub G R H ∧ SqL K R a (ns.map V.int) := by
      rcases hS with (h | ⟨o, h⟩) | h
      · refine ⟨fun b => if b = a then some (.lst (ns.map V.int)) else none, fun b x e => ?_, .inl (.inl (if_pos rfl))⟩
        by_cases hb : b = a
        · subst hb
          have e' : (if b = b then some _ else none) = some x := e
          rw [if_pos rfl] at e'
          cases e'
          exact h
        · have e' : (if b = a then some _ else none) = some x := e
          rw [if_neg hb] at e'
          cases e'
      · refine ⟨fun b => if b = a then some (.frz o (.lst (ns.map V.int))) else none, fun b x e => ?_, .inl (.inr ⟨o, if_pos rfl⟩)⟩
        by_cases hb : b = a
        · subst hb
          have e' : (if b = b then some _ else none) = some x := e
          rw [if_pos rfl] at e'
          cases e'
          exact h
        · have e' : (if b = a then some _ else none) = some x := e
          rw [if_neg hb] at e'
          cases e'
      · exact ⟨fun _ => none, fun b x e => (by cases e), .inr h⟩
    obtain ⟨R, s, hs⟩ := key
    refine ⟨R, ns, s, .cons (.ro hs (AtL.ints ns)) .nil, hl, fun v R' H' d _ ha _ hd => ?_, fun _ _ _ _ h => h.elim⟩
    subst hd
    cases ha
    exact q H'
end VL

namespace VL
open PySem PySem.Spec PyProof.Rows L2
/-! ### zip of three lists -/
def Itz3 (K : PySem.W.Frag) (a b c : Addr) : It :=
  ⟨fun i H => ∃ (xs ys zs : List V) (x y z : V), SqL K H a xs ∧ SqL K H b ys ∧ SqL K H c zs ∧ xs[i]? = some x ∧ ys[i]? = some y ∧ zs[i]? = some z,
    fun i H v H' => ∃ T x y z, v = .ref T ∧ H T = none ∧ H' = upd H T (.tup [x, y, z]) ∧ (∀ xs, SqL K H a xs → xs[i]? = some x) ∧ (∀ ys, SqL K H b ys → ys[i]? = some y) ∧ ∀ zs, SqL K H c zs → zs[i]? = some z,
    fun i H => ∃ xs ys zs : List V, SqL K H a xs ∧ SqL K H b ys ∧ SqL K H c zs ∧ i = min (min xs.length ys.length) zs.length⟩
theorem sub5 {z TI TO i1 i2 i3 d : Addr} (h : d ∈ [z, TO, i1, i2, i3]) : d ∈ [z, TI, TO, i1, i2, i3] := by
  simp only [List.mem_cons, List.not_mem_nil, or_false] at h ⊢
  rcases h with h | h | h | h | h <;> simp [h]
theorem turn_zip3 {P : Program} {w : World} {K : PySem.W.Frag} {elts : List Expr} {kk : Nat} {tpos : Pos} {a b c z TI TO i1 i2 i3 : Addr} (S : ZipSep3 z TI TO i1 i2 i3 [i1, a] [i2, b] [i3, c]) (na : a ≠ i1) (nb : b ≠ i2) (nc : c ≠ i3) :
    Turn P w K (.Tuple elts kk tpos) (Itz3 K a b c) [z, TI, TO, i1, i2, i3] z (fun i h => IsZip h z TI TO .none ∧ IsTupOf3 h TI (.ref i1) (.ref i2) (.ref i3) ∧ (∃ x y u, IsTupOf3 h TO x y u) ∧ h.IsListIter i1 a i ∧ h.IsListIter i2 b i ∧ h.IsListIter i3 c i) where
  mem := by simp
  obj := fun i h st d hd => by
    obtain ⟨hz, hTI, ⟨x, y, u, hTO⟩, ⟨o1, e1, _, d1⟩, ⟨o2, e2, _, d2⟩, ⟨o3, e3, _, d3⟩⟩ := st
    have e' : d = z ∨ d = TI ∨ d = TO ∨ d = i1 ∨ d = i2 ∨ d = i3 := by simpa using hd
    rcases e' with q | q | q | q | q | q
    · rw [q]; exact ⟨_, hz, fun v q => nomatch q⟩
    · rw [q]; exact ⟨_, hTI, fun v q => nomatch q⟩
    · rw [q]; exact ⟨_, hTO, fun v q => nomatch q⟩
    · rw [q]; exact ⟨o1, e1, fun v q => by rw [d1] at q; cases q⟩
    · rw [q]; exact ⟨o2, e2, fun v q => by rw [d2] at q; cases q⟩
    · rw [q]; exact ⟨o3, e3, fun v q => by rw [d3] at q; cases q⟩
  keep := fun i h h' st k => by
    obtain ⟨hz, hTI, ⟨x, y, u, hTO⟩, h1, h2, h3⟩ := st
    exact ⟨k z (by simp) _ hz, k TI (by simp) _ hTI, ⟨x, y, u, k TO (by simp) _ hTO⟩, h1.at fun o q => k i1 (by simp) o q, h2.at fun o q => k i2 (by simp) o q, h3.at fun o q => k i3 (by simp) o q⟩
  item := by
    intro X hP hw hK hc i pins s σ H E I hf st hg
    subst hP hw hK
    obtain ⟨hz, hTI, hTO, h1, h2, h3⟩ := st
    obtain ⟨xs, ys, zs, x, y, u, hqx, hqy, hqz, hx, hy, hu⟩ := hg
    obtain ⟨its, rv, p, _⟩ := I.list hqx
    obtain ⟨its2, rv2, p2, _⟩ := I.list hqy
    obtain ⟨its3, rv3, p3, _⟩ := I.list hqz
    have hh := I.ok.hd hc
    have G := GoesN.zip3 (prog := X.prog) (w := X.w) (A := X.A) (elts := elts) (x1 := kk) (pos := tpos) S (Draws.list (A := X.A.in1) hh i1 a na its.toArray) (Draws.list (A := X.A.in1) hh i2 b nb its2.toArray) (Draws.list (A := X.A.in1) hh i3 c nc its3.toArray)
    have l1 := rv.length
    have l2 := rv2.length
    have l3 := rv3.length
    have b1 := (List.getElem?_eq_some_iff.mp hx).1
    have b2 := (List.getElem?_eq_some_iff.mp hy).1
    have b3 := (List.getElem?_eq_some_iff.mp hu).1
    refine G.goes i s (fun v s2 => ∃ x H', Inv X pins σ H' s2 ∧ RelV x v ∧ (Itz3 X.K a b c).yld i H x H' ∧ (IsZip s2.heap z TI TO .none ∧ IsTupOf3 s2.heap TI (.ref i1) (.ref i2) (.ref i3) ∧ (∃ x y u, IsTupOf3 s2.heap TO x y u) ∧ s2.heap.IsListIter i1 a (i + 1) ∧ s2.heap.IsListIter i2 b (i + 1) ∧ s2.heap.IsListIter i3 c (i + 1)) ∧ ∀ b ∈ [z, TI, TO, i1, i2, i3], H' b = none) E ?_ ⟨hz, hTI, hTO, ⟨h1, p.isList⟩, ⟨h2, p2.isList⟩, ⟨h3, p3.isList⟩⟩ ?_
    · simp only [List.size_toArray]
      omega
    · rintro v h' tk ⟨T, x', y', u', rfl, hT, hx', hy', hu', hTt⟩ ⟨k1, k2, k3, ⟨k4, _⟩, ⟨k5, _⟩, ⟨k6, _⟩⟩ hk htk
      obtain ⟨w1, hw1, rw1⟩ := rv.get hx
      obtain ⟨w2, hw2, rw2⟩ := rv2.get hy
      obtain ⟨w3, hw3, rw3⟩ := rv3.get hu
      have e1 : x' = w1 := by
        have : its[i]? = some x' := by simpa using hx'
        rw [hw1] at this
        cases this
        rfl
      have e2 : y' = w2 := by
        have : its2[i]? = some y' := by simpa using hy'
        rw [hw2] at this
        cases this
        rfl
      have e3 : u' = w3 := by
        have : its3[i]? = some u' := by simpa using hu'
        rw [hw3] at this
        cases this
        rfl
      subst e1 e2 e3
      obtain ⟨o, ho, hoc, n, hod⟩ : ∃ o, h'.get? T = some o ∧ o.cls = .type "tuple" ∧ ∃ n, o.data = .seq #[x', y', u'] n := by
        obtain ⟨o, ho, hc', hd'⟩ := hTt
        exact ⟨o, ho, hc', by simpa using hd'⟩
      have new : ObjOk X.prog X.w (upd H T (.tup [x, y, u])) h' T (.tup [x, y, u]) :=
        ⟨by show 3 ≤ sizeLine; decide, [x', y', u'], .cons rw1 (.cons rw2 (.cons rw3 .nil)), ⟨o, ho, hoc, n, hod⟩⟩
      have I1 : Inv X pins σ (upd H T (.tup [x, y, u])) { s with heap := h', toks := tk } :=
        I.turnedNew (t' := tk) (ch := [z, TI, TO, i1, i2, i3]) (fun c o hb q => hk c o (fun q' => hb (sub5 q')) q) hf hT new
      refine ⟨.ref T, _, I1, rfl, ⟨T, x, y, u, rfl, I.hok.fresh hT, rfl, fun l hl => by rw [I.list_inj hl hqx]; exact hx, fun l hl => by rw [I.list_inj hl hqy]; exact hy, fun l hl => by rw [I.list_inj hl hqz]; exact hu⟩, ⟨k1, k2, k3, k4, k5, k6⟩, fun d hd => ?_⟩
      have hlt : d < s.heap.objs.size := by
        have e' : d = z ∨ d = TI ∨ d = TO ∨ d = i1 ∨ d = i2 ∨ d = i3 := by simpa using hd
        obtain ⟨_, _, _, hTO⟩ := hTO
        rcases e' with q | q | q | q | q | q
        · rw [q]; exact Heap.lt_size hz
        · rw [q]; exact Heap.lt_size hTI
        · rw [q]; exact Heap.lt_size hTO
        · rw [q]; obtain ⟨_, e1, _⟩ := h1; exact Heap.lt_size e1
        · rw [q]; obtain ⟨_, e2, _⟩ := h2; exact Heap.lt_size e2
        · rw [q]; obtain ⟨_, e3, _⟩ := h3; exact Heap.lt_size e3
      rw [upd_ne (Nat.ne_of_lt (Nat.lt_of_lt_of_le hlt hT))]
      exact (hf d hd).1
  done := by
    intro X hP hw hK hc i pins s σ H E I hf st hg
    subst hP hw hK
    obtain ⟨hz, hTI, hTO, h1, h2, h3⟩ := st
    obtain ⟨xs, ys, zs, hqx, hqy, hqz, hend⟩ := hg
    obtain ⟨its, rv, p, _⟩ := I.list hqx
    obtain ⟨its2, rv2, p2, _⟩ := I.list hqy
    obtain ⟨its3, rv3, p3, _⟩ := I.list hqz
    have hh := I.ok.hd hc
    have G := GoesN.zip3 (prog := X.prog) (w := X.w) (A := X.A) (elts := elts) (x1 := kk) (pos := tpos) S (Draws.list (A := X.A.in1) hh i1 a na its.toArray) (Draws.list (A := X.A.in1) hh i2 b nb its2.toArray) (Draws.list (A := X.A.in1) hh i3 c nc its3.toArray)
    have e : min (min its.toArray.size its2.toArray.size) its3.toArray.size = i := by
      rw [List.size_toArray, List.size_toArray, List.size_toArray, ← rv.length, ← rv2.length, ← rv3.length, hend]
    rw [e] at G
    refine G.stops s (fun s1 => Inv X pins σ H s1) E ⟨hz, hTI, hTO, ⟨h1, p.isList⟩, ⟨h2, p2.isList⟩, ⟨h3, p3.isList⟩⟩ fun h' tk hk htk => ?_
    exact I.turnedL (t' := tk) (ch := [z, TI, TO, i1, i2, i3]) (fun c o hb q => hk c o (fun q' => hb (sub5 q')) q) hf
  self := fun A i s Q E st h => wpAny_pyIter_zip st.1 h
def iZip3 (K : PySem.W.Frag) (ta : TA) : TI := fun σ H R => ta σ H fun vs H1 => ∃ a b c xs ys zs, vs = [.ref a, .ref b, .ref c] ∧ SqL K H1 a xs ∧ SqL K H1 b ys ∧ SqL K H1 c zs ∧ R (Itz3 K a b c) H1
theorem pi_zip3 {X : Cx} {e e2 e3 : Expr} {ta : TA} {p pos tpos : Pos} {elts : List Expr} {kk : Nat} (hg : Gl X "zip") (hm : X.mg "zip" = none) (ha : PA X [e, e2, e3] ta)
    (hs : starEach [e, e2, e3] X.env = (false, eval e X.env) :: starEach [e2, e3] X.env := by rfl) (hpl : (backTo pos (starEach [e2, e3] X.env)).any (·.1) = false := by rfl) :
    PI X (.Tuple elts kk tpos) (.Call (.Name "zip" p) [e, e2, e3] [] pos) (iZip3 X.K ta) := by
  refine ⟨fun pins s σ H R I h => ?_⟩
  refine Call_ (ld_blt I hg hm PyProof.Rows.boot_zip (PyProof.Rows.callWith_type1 (thn (ha.run pos pins s σ H _ I h) fun us s1 ⟨vs, H1, I1, r1, q1⟩ => ?_) hs hpl))
  obtain ⟨a, b, c, xs, ys, zs, ex, hqx, hqy, hqz, q⟩ := q1
  subst ex
  cases r1 with
  | cons r rr =>
  cases rr with
  | cons r' rr =>
  cases rr with
  | cons r'' rr =>
  cases rr
  cases r
  cases r'
  cases r''
  obtain ⟨its, rv, p1, _⟩ := I1.list hqx
  obtain ⟨its2, rv2, p2, _⟩ := I1.list hqy
  obtain ⟨its3, rv3, p3, _⟩ := I1.list hqz
  have la : a < s1.heap.objs.size := p1.lt
  have lb : b < s1.heap.objs.size := p2.lt
  have lc : c < s1.heap.objs.size := p3.lt
  refine zip_begins3 (begins_list a its.toArray) (begins_list b its2.toArray) (begins_list c its3.toArray) p1.isList p2.isList p3.isList fun h' hz hTI hTO g1 g2 g3 hsz hk => wpAny_pyIter_zip hz ?_
  have I2 : Inv X pins σ H1 { s1 with heap := h' } := I1.kept (t' := s1.toks) hk
  have one : ∀ {x : Addr}, x < s1.heap.objs.size → ∀ b ∈ [x], b < s1.heap.objs.size := fun hx b hb => by
    rw [List.mem_singleton.mp hb]
    exact hx
  refine ⟨s1.heap.objs.size + 5, [s1.heap.objs.size + 5, s1.heap.objs.size + 3, s1.heap.objs.size + 4, s1.heap.objs.size, s1.heap.objs.size + 1, s1.heap.objs.size + 2], _, _, H1, rfl, I2, turn_zip3 (zip_sep3 (one la) (one lb) (one lc)) (Nat.ne_of_lt la) (Nat.ne_of_lt (Nat.lt_succ_of_lt lb)) (Nat.ne_of_lt (Nat.lt_succ_of_lt (Nat.lt_succ_of_lt lc))), ⟨hz, hTI, ⟨_, _, _, hTO⟩, ⟨_, g1, rfl, rfl⟩, ⟨_, g2, rfl, rfl⟩, ⟨_, g3, rfl, rfl⟩⟩, fun d hd => ?_, q⟩
  have hle : s1.heap.objs.size ≤ d := by
    have e' : d = s1.heap.objs.size + 5 ∨ d = s1.heap.objs.size + 3 ∨ d = s1.heap.objs.size + 4 ∨ d = s1.heap.objs.size ∨ d = s1.heap.objs.size + 1 ∨ d = s1.heap.objs.size + 2 := by simpa using hd
    rcases e' with z | z | z | z | z | z
    · rw [z]; exact Nat.le_add_right _ _
    · rw [z]; exact Nat.le_add_right _ _
    · rw [z]; exact Nat.le_add_right _ _
    · rw [z]; exact Nat.le_refl _
    · rw [z]; exact Nat.le_add_right _ _
    · rw [z]; exact Nat.le_add_right _ _
  exact I1.fpOk hle (I1.hok.fresh hle)
section
variable {K : PySem.W.Frag} {G : List Int → Prop} {B : Bs} {env : Vn} {R : Hp} {Ql : List D → Prop}
def zipD3 (ds es fs : List D) : List D := (List.range (min (min ds.length es.length) fs.length)).map fun i => .tup [ds.getD i .non, es.getD i .non, fs.getD i .non]
theorem getD_of {ds : List D} {i : Nat} (h : i < ds.length) : ds[i]? = some (ds.getD i .non) := by
  rw [List.getD_eq_getElem?_getD, List.getElem?_eq_getElem h]
  rfl
theorem zipD3_get {ds es fs : List D} {i : Nat} {d : D} (h : (zipD3 ds es fs)[i]? = some d) : ∃ a b c, ds[i]? = some a ∧ es[i]? = some b ∧ fs[i]? = some c ∧ d = .tup [a, b, c] := by
  unfold zipD3 at h
  rw [List.getElem?_map] at h
  by_cases hi : i < min (min ds.length es.length) fs.length
  · rw [List.getElem?_range hi] at h
    cases h
    exact ⟨_, _, _, getD_of (by omega), getD_of (by omega), getD_of (by omega), rfl⟩
  · rw [List.getElem?_eq_none_iff.mpr (by rw [List.length_range]; omega)] at h
    cases h
theorem zipD3_len (ds es fs : List D) : (zipD3 ds es fs).length = min (min ds.length es.length) fs.length := by
  unfold zipD3
  rw [List.length_map, List.length_range]
theorem wk_zip3 {a b c : Addr} {xs ys zs : List V} {ds es fs : List D} (hl : SqL K R a xs) (ha : AtL K R xs ds) (hl' : SqL K R b ys) (ha' : AtL K R ys es) (hl2 : SqL K R c zs) (ha2 : AtL K R zs fs) : Wk K G B R (Itz3 K a b c) (zipD3 ds es fs) where
  go := fun B e σ R' H' r s i d hi => by
    obtain ⟨d1, d2, d3, h1, h2, h3, rfl⟩ := zipD3_get hi
    obtain ⟨v, hv, hd⟩ := ha.get h1
    obtain ⟨w, hw, he⟩ := ha'.get h2
    obtain ⟨u, hu, hf⟩ := ha2.get h3
    have hL := r.sub.l (same_l s hl)
    have hL' := r.sub.l (same_l s hl')
    have hL2 := r.sub.l (same_l s hl2)
    refine ⟨⟨xs, ys, zs, v, w, u, hL, hL', hL2, hv, hw, hu⟩, ?_⟩
    rintro u' H2 ⟨T, x, y, z, rfl, hT, rfl, hx, hy, hz⟩
    have e := hx xs hL
    rw [hv] at e
    cases e
    have e := hy ys hL'
    rw [hw] at e
    cases e
    have e := hz zs hL2
    rw [hu] at e
    cases e
    have hn := r.sub.none hT
    exact ⟨_, r.newP hT (fun φ z => by cases z), same_take hn, .tup (.inl (.inl upd_same)) (.cons ((hd.same s).same (same_take hn)) (.cons ((he.same s).same (same_take hn)) (.cons ((hf.same s).same (same_take hn)) .nil)))⟩
  stop := fun B e σ R' H' r s => ⟨xs, ys, zs, r.sub.l (same_l s hl), r.sub.l (same_l s hl'), r.sub.l (same_l s hl2), by rw [zipD3_len, ha.len, ha'.len, ha2.len]⟩
theorem vi_zip3 {ta : TA} (h : VA K G B ta env fun xs => ∃ x y z ds es fs, xs = [x, y, z] ∧ x.seqP = some ds ∧ y.seqP = some es ∧ z.seqP = some fs ∧ Ql (zipD3 ds es fs)) : VI K G B (iZip3 K ta) env Ql := fun σ R H r Qh k =>
  h σ R H r _ fun vs R1 H1 xs r1 s1 hv _ ⟨x, y, z, ds, es, fs, e, hx, hy, hz, q⟩ => by
    subst e
    match vs, hv with
    | [v, w, u], hv =>
      obtain ⟨a, ys, rfl, h1, h2⟩ := seqP_at hv.1 hx
      obtain ⟨b, zs, rfl, g1, g2⟩ := seqP_at hv.2.1 hy
      obtain ⟨c, us, rfl, f1, f2⟩ := seqP_at hv.2.2.1 hz
      exact ⟨a, b, c, ys, zs, us, rfl, r1.sub.l h1, r1.sub.l g1, r1.sub.l f1, k _ R1 H1 _ r1 s1 (wk_zip3 h1 h2 g1 g2 f1 f2) q⟩
end
end VL

namespace VL
open PySem PySem.Spec PyProof.Rows L2
/-! ### xs[i] op= v -/
section
variable {K : PySem.W.Frag} {G : List Int → Prop} {B : Bs} {env : Vn} {σ : L2.St} {R R' R1 H H' H1 : Hp} {Q : XV → Prop} {nx : Vn → Prop} {rt : XV → Prop} {bk ct : Vn → Prop} {Qe : Vn → Prop} {Qb : Bool → Prop} {Ql : List D → Prop}
theorem vs_augS {i : Nat} {ti te : TE} {tip : TIp} {ds : List D} (hd : env[i]? = some (.mu (.lst ds))) (h : VE K G B ti env fun y => ∃ (z : Int) (j : Nat) (d : D), y = .p (.int z) ∧ ixN ds.length z = some j ∧ ds[j]? = some d ∧ ds.length ≤ 100000 ∧
      VE K G B te env fun x => x.fz fun x => VO K G B tip env (.p d) x fun u => ∃ e, u = .p e ∧ nx (env.set i (.mu (.lst (ds.set j e))))) :
    VS K G B (tAugS (tVar i) ti te (rIxL K) tip rSetL) env nx rt bk ct := fun σ R H r Z kn _ _ _ => by
  obtain ⟨a, y, h1, _⟩ := r.slots i _ hd
  refine ⟨.ref a, h1, h σ R H r _ fun w R1 H1 x r1 s1 hw ⟨z, j, d, e, hj, hg, hlen, q⟩ => ?_⟩
  subst e
  cases hw
  obtain ⟨b, y, g1, g2, g3, g4, g5⟩ := r1.slots i _ hd
  rw [h1] at g1
  cases g1
  obtain ⟨ys, rfl⟩ : ∃ xs, y = .lst xs := by cases y <;> first | exact ⟨_, rfl⟩ | exact g5.elim
  have g6 : AtL K R1 ys ds := g5
  obtain ⟨u, hu, hud⟩ := g6.get hg
  have hL : SqL K H1 a ys := .inl (.inl g4)
  have hat : atI ys z = some u := by
    unfold atI
    rw [g6.len, hj]
    exact hu
  refine ⟨a, ys, z, u, rfl, rfl, hL, hat, q σ R1 H1 r1 _ fun v R2 H2 x r2 s2 hv q2 => ?_⟩
  obtain ⟨R3, x', r3, s3, hv3, ho, q3⟩ := hv.fz r2 q2
  refine q3 σ R3 H2 r3 u v (At.same (s2.trans s3) hud) hv3 _ fun p R4 H4 x4 r4 s4 hp ⟨e, he, q4⟩ => ?_
  subst he
  obtain ⟨b, y, f1, f2, f3, f4, f5⟩ := r4.slots i _ hd
  rw [h1] at f1
  cases f1
  obtain ⟨zs, rfl⟩ : ∃ xs, y = .lst xs := by cases y <;> first | exact ⟨_, rfl⟩ | exact f5.elim
  have f6 : AtL K R4 zs ds := f5
  refine ⟨a, zs, z, j, rfl, rfl, f4, by rw [f6.len]; exact hj, ?_⟩
  exact kn _ σ R4 _ (r4.mut hd h1 (y := .lst (zs.set j p)) (d' := .lst (ds.set j e)) (AtL.set hp j f6)) (((s1.trans s2).trans s3).trans s4) q4
theorem ve_mono {t : TE} {Q' : XV → Prop} (h : VE K G B t env Q) (k : ∀ x, Q x → Q' x) : VE K G B t env Q' := fun σ R H r Qh c => h σ R H r Qh fun v R' H' x r' s' hv q => c v R' H' x r' s' hv (k x q)
theorem vo_mono {t : R2} {x y : XV} {Q' : XV → Prop} (h : VO K G B t env x y Q) (k : ∀ x, Q x → Q' x) : VO K G B t env x y Q' := fun σ R H r v w hv hw Qh c => h σ R H r v w hv hw Qh fun z R' H' x r' s' hz q => c z R' H' x r' s' hz (k x q)
theorem fz_mono {P P' : XV → Prop} {x : XV} (h : x.fz P) (k : ∀ x, P x → P' x) : x.fz P' := by
  cases x with
  | p d => exact fz_p (k _ h)
  | o d => exact fz_o (k _ h)
  | m i d => exact k _ h
/-- xs[i] op= v, whole numbers -/
theorem vs_augI {i : Nat} {ti te : TE} {tip : TIp} {os : List Int} (hd : env[i]? = some (.mu (.lst (os.map D.int)))) (h : VE K G B ti env fun y => ∃ (z : Int) (j : Nat) (d : Int), y = .p (.int z) ∧ ixN os.length z = some j ∧ os[j]? = some d ∧ os.length ≤ 100000 ∧
      VE K G B te env fun x => x.fz fun x => VO K G B tip env (.p (.int d)) x fun u => ∃ e, u = .p (.int e) ∧ nx (env.set i (.mu (.lst ((os.set j e).map D.int))))) :
    VS K G B (tAugS (tVar i) ti te (rIxL K) tip rSetL) env nx rt bk ct := vs_augS hd (ve_mono h fun y ⟨z, j, d, e1, e2, e3, e4, q⟩ => ⟨z, j, .int d, e1, by rw [List.length_map]; exact e2, by rw [List.getElem?_map, e3]; rfl, by rw [List.length_map]; exact e4,
      ve_mono q fun x q => fz_mono q fun x q => vo_mono q fun u ⟨e, eu, q⟩ => ⟨.int e, eu, by rw [← List.map_set]; exact q⟩⟩)
/-- xs[i] = v, whole numbers -/
theorem vg_subI {i : Nat} {te : TE} {os : List Int} {d : Int} (hd : env[i]? = some (.mu (.lst (os.map D.int)))) (h : VE K G B te env fun x => ∃ z j, x = .p (.int z) ∧ ixN os.length z = some j ∧ Qe (env.set i (.mu (.lst ((os.set j d).map D.int))))) :
    VG K G B (gSub (tVar i) te rSetL) (.p (.int d)) env Qe := vg_subL hd (ve_mono h fun x ⟨z, j, e1, e2, q⟩ => ⟨z, j, e1, by rw [List.length_map]; exact e2, by rw [← List.map_set]; exact q⟩)
end
end VL

namespace VL
open PySem PySem.Spec PyProof.Rows L2
/-! ### a dict is walked: it is locked meanwhile -/
/-- no dict within -/
def D.noD : Nat → D → Bool
  | 0, _ => false
  | n + 1, d => match d with
    | .tup ds => ds.all (D.noD n)
    | .lst ds => ds.all (D.noD n)
    | .ro ds => ds.all (D.noD n)
    | .dct _ => false
    | .lkd _ _ => false
    | _ => true
def Slot.noD : Slot → Bool
  | .u => true
  | .p d => D.noD 9 d
  | .mu (.lst ds) => ds.all (D.noD 9)
  | .mu (.dct kvs) => kvs.all fun p => D.noD 9 p.2
  | .mu _ => false
theorem noD_map {α : Type} {n : Nat} {f : α → D} (h : ∀ x, D.noD n (f x) = true) (l : List α) : (l.map f).all (D.noD n) = true := by
  rw [List.all_map]
  exact List.all_eq_true.mpr fun x _ => h x
theorem noD_ints (n : Nat) (l : List Int) : (l.map D.int).all (D.noD (n + 1)) = true := noD_map (fun _ => rfl) l
section
variable {K : PySem.W.Frag} {G : List Int → Prop} {B : Bs} {env : Vn} {σ : L2.St} {R R' R1 H H' H1 : Hp} {Q : XV → Prop} {nx : Vn → Prop} {rt : XV → Prop} {bk ct : Vn → Prop} {Qe : Vn → Prop} {Qb : Bool → Prop} {Ql : List D → Prop}
theorem at_unl {a : Addr} {o : Obj} {zs : List (Key × V)} (ha : R a = some (.frz o (.dK zs))) : ∀ (n : Nat) {v : V} {d : D}, D.noD n d = true → At K R v d → At K (without R a) v d := by
  have ne : ∀ {b : Addr} {y : HO}, R b = some y → (∀ o u, y ≠ .frz o (.dK u)) → without R a b = some y := fun {b y} e hn => by
    rw [without_ne]
    · exact e
    · rintro rfl
      rw [ha] at e
      cases e
      exact hn _ _ rfl
  intro n
  induction n with
  | zero => intro v d h _; cases h
  | succ n ih =>
    intro v d h t
    cases t with
    | non => exact .non
    | bl b => exact .bl b
    | int i => exact .int i
    | str x => exact .str x
    | @tup b xs ds hs ht =>
      refine .tup (xs := xs) ?_ ?_
      · rcases hs with (hs | ⟨o, hs⟩) | hs
        · exact .inl (.inl (ne hs fun _ _ z => by cases z))
        · exact .inl (.inr ⟨o, ne hs fun _ _ z => by cases z⟩)
        · exact .inr hs
      · have hd : ∀ d ∈ ds, D.noD n d = true := List.all_eq_true.mp h
        exact ht.imp fun v d hm => ih (hd d hm)
    | @lst b xs ds hs ht =>
      refine .lst (xs := xs) (ne hs fun _ _ z => by cases z) ?_
      have hd : ∀ d ∈ ds, D.noD n d = true := List.all_eq_true.mp h
      exact ht.imp fun v d hm => ih (hd d hm)
    | @ro b xs ds hs ht =>
      refine .ro (xs := xs) ?_ ?_
      · rcases hs with (hs | ⟨o, hs⟩) | hs
        · exact .inl (.inl (ne hs fun _ _ z => by cases z))
        · exact .inl (.inr ⟨o, ne hs fun _ _ z => by cases z⟩)
        · exact .inr hs
      · have hd : ∀ d ∈ ds, D.noD n d = true := List.all_eq_true.mp h
        exact ht.imp fun v d hm => ih (hd d hm)
    | dct _ _ => cases h
    | lkd _ _ => cases h
    | ty n => exact .ty n
    | @st b φ hs => exact .st (φ := φ) (ne hs fun _ _ z => by cases z)
theorem mat_unl {a : Addr} {o : Obj} {zs : List (Key × V)} (ha : R a = some (.frz o (.dK zs))) {y : HO} {d : D} (h : Slot.noD (.mu d) = true) (t : MAt K R y d) : MAt K (without R a) y d := by
  cases y <;> cases d <;> first
    | exact t.elim
    | exact AtL.imp t fun v d hm => at_unl ha 9 (List.all_eq_true.mp h d hm)
    | exact AtD.imp t fun v d hm => at_unl ha 9 (by
        obtain ⟨p, hp, rfl⟩ := List.mem_map.mp hm
        exact List.all_eq_true.mp h p hp)
theorem subAt_eq {b : Addr} {x : HO} (h : SubAt G H b x) (e : H' b = H b) : SubAt G H' b x := by
  cases x <;> simp only [SubAt] at h ⊢ <;> rw [e] <;> exact h
/-- the slot's own dict is locked -/
theorem Rep.lock (r : Rep K G B env σ R H) {i : Nat} {a : Addr} {o : Obj} {xs : List (Key × V)} {ds : List (Key × D)} (hd : env[i]? = some (.mu (.dct ds))) (h1 : σ[i]? = some (some (.ref a))) (hB : B.H a = none) (hR : R a = none) (hH : H a = some (.dK xs)) (hA : AtD K R xs ds) :
    Rep K G B (env.set i (.p (.lkd a ds))) σ (upd R a (.frz o (.dK xs))) (upd H a (.frz o (.dK xs))) where
  sub0 := r.sub0
  step := {
    same := fun b x e => by
      rw [upd_ne (fun z => by subst z; rw [r.sub0.none hB] at e; cases e)]
      exact r.step.same b x e
    sub := fun b x e => by
      by_cases hb : b = a
      · subst hb
        rw [upd_same] at e
        cases e
        exact upd_same
      · rw [upd_ne hb] at e
        exact subAt_eq (r.step.sub b x e) (upd_ne hb)
    kept := fun b y e n => by
      rw [upd_ne (fun z => by subst z; rw [hB] at e; cases e)]
      exact r.step.kept b y e n
    out := fun b y e n => by
      rw [upd_ne (fun z => by subst z; rw [hB] at e; cases e)]
      exact r.step.out b y e n }
  len := by rw [List.length_set]; exact r.len
  dist := fun j k d e hjk hj hk => by
    by_cases q : i = j
    · subst q
      rw [List.getElem?_set_self (List.getElem?_eq_some_iff.mp hd).1] at hj
      cases hj
    · by_cases q2 : i = k
      · subst q2
        rw [List.getElem?_set_self (List.getElem?_eq_some_iff.mp hd).1] at hk
        cases hk
      · rw [List.getElem?_set_ne q] at hj
        rw [List.getElem?_set_ne q2] at hk
        exact r.dist j k d e hjk hj hk
  pr := fun q hq => by
    obtain ⟨g1, g2, g3, g4⟩ := r.pr q hq
    have hne : q.1 ≠ a := fun z => g4 i _ hd (by rw [z]; exact h1)
    refine ⟨g1, by rw [upd_ne hne]; exact g2, by rw [upd_ne hne]; exact g3, fun j e hj => ?_⟩
    by_cases q : i = j
    · subst q
      rw [List.getElem?_set_self (List.getElem?_eq_some_iff.mp hd).1] at hj
      cases hj
    · rw [List.getElem?_set_ne q] at hj
      exact g4 j e hj
  slots := fun j s hj => by
    have sm : Same R (upd R a (.frz o (.dK xs))) := fun b x e => by
      rw [upd_ne (fun z => by subst z; rw [hR] at e; cases e)]
      exact e
    by_cases q : i = j
    · subst q
      rw [List.getElem?_set_self (List.getElem?_eq_some_iff.mp hd).1] at hj
      cases hj
      exact ⟨.ref a, h1, .lkd (o := o) (xs := xs) upd_same (hA.same sm)⟩
    · rw [List.getElem?_set_ne q] at hj
      have := r.slots j s hj
      cases s with
      | u => trivial
      | p d =>
        obtain ⟨v, g1, g2⟩ := this
        exact ⟨v, g1, g2.same sm⟩
      | mu d =>
        obtain ⟨b, y, g1, g2, g3, g4, g5⟩ := this
        have hne : b ≠ a := fun z => r.dist i j _ _ q hd hj (by rw [h1, g1, z])
        exact ⟨b, y, g1, g2, by rw [upd_ne hne]; exact g3, by rw [upd_ne hne]; exact g4, g5.same sm⟩
/-- .. and unlocked -/
theorem Rep.unlock (r : Rep K G B env σ R H) {i : Nat} {a : Addr} {o : Obj} {xs : List (Key × V)} {ds : List (Key × D)} (hd : env[i]? = some (.p (.lkd a ds))) (hB : B.H a = none) (hR : R a = some (.frz o (.dK xs))) (hn : ∀ (j : Nat) s, j ≠ i → env[j]? = some s → s.noD = true) (hA : AtD K (without R a) xs ds) :
    Rep K G B (env.set i (.mu (.dct ds))) σ (without R a) (upd H a (.dK xs)) := by
  have h1 : σ[i]? = some (some (.ref a)) := by
    obtain ⟨v, g1, g2⟩ := r.slots i _ hd
    cases g2
    exact g1
  have hi := (List.getElem?_eq_some_iff.mp hd).1
  exact {
    sub0 := r.sub0
    step := {
      same := fun b x e => by
        rw [without_ne (fun z => by subst z; rw [r.sub0.none hB] at e; cases e)]
        exact r.step.same b x e
      sub := fun b x e => by
        by_cases hb : b = a
        · subst hb
          rw [without_same] at e
          cases e
        · rw [without_ne hb] at e
          exact subAt_eq (r.step.sub b x e) (upd_ne hb)
      kept := fun b y e n => by
        rw [upd_ne (fun z => by subst z; rw [hB] at e; cases e)]
        exact r.step.kept b y e n
      out := fun b y e n => by
        rw [without_ne (fun z => by subst z; rw [hB] at e; cases e)]
        exact r.step.out b y e n }
    len := by rw [List.length_set]; exact r.len
    dist := fun j k d e hjk hj hk => by
      have nomu : ∀ (k : Nat) e, k ≠ i → (env.set i (.mu (.dct ds)))[k]? = some (.mu e) → σ[k]? ≠ some (some (.ref a)) := fun k e hk h z => by
        rw [List.getElem?_set_ne (Ne.symm hk)] at h
        obtain ⟨b, y, g1, g2, g3, g4, g5⟩ := r.slots k _ h
        rw [g1] at z
        cases z
        rw [hR] at g3
        cases g3
      by_cases q : j = i
      · subst q
        rw [h1]
        exact Ne.symm (nomu k e (Ne.symm hjk) hk)
      · by_cases q2 : k = i
        · subst q2
          rw [h1]
          exact nomu j d q hj
        · rw [List.getElem?_set_ne (Ne.symm q)] at hj
          rw [List.getElem?_set_ne (Ne.symm q2)] at hk
          exact r.dist j k d e hjk hj hk
    pr := fun q hq => by
      obtain ⟨g1, g2, g3, g4⟩ := r.pr q hq
      have hne : q.1 ≠ a := fun z => by rw [z, hR] at g2; cases g2
      refine ⟨g1, by rw [without_ne hne]; exact g2, by rw [upd_ne hne]; exact g3, fun j e hj => ?_⟩
      by_cases q : j = i
      · subst q
        rw [h1]
        exact fun z => hne (by cases z; rfl)
      · rw [List.getElem?_set_ne (Ne.symm q)] at hj
        exact g4 j e hj
    slots := fun j s hj => by
      by_cases q : j = i
      · subst q
        rw [List.getElem?_set_self hi] at hj
        cases hj
        exact ⟨a, .dK xs, h1, hB, without_same, upd_same, hA⟩
      · rw [List.getElem?_set_ne (Ne.symm q)] at hj
        have hs := hn j s q hj
        have := r.slots j s hj
        cases s with
        | u => trivial
        | p d =>
          obtain ⟨v, g1, g2⟩ := this
          exact ⟨v, g1, at_unl hR 9 hs g2⟩
        | mu d =>
          obtain ⟨b, y, g1, g2, g3, g4, g5⟩ := this
          have hne : b ≠ a := fun z => by rw [z, hR] at g3; cases g3
          exact ⟨b, y, g1, g2, by rw [without_ne hne]; exact g3, by rw [upd_ne hne]; exact g4, mat_unl hR hs g5⟩ }
/-- the slots that are known behind a return: none -/
theorem Rep.blank (r : Rep K G B env σ R H) : Rep K G B (List.replicate σ.length .u) σ R H where
  sub0 := r.sub0
  step := r.step
  len := by rw [List.length_replicate]
  dist := fun j k d e _ hj _ => by
    rw [List.getElem?_replicate] at hj
    split at hj <;> cases hj
  pr := fun q hq => by
    obtain ⟨g1, g2, g3, g4⟩ := r.pr q hq
    exact ⟨g1, g2, g3, fun j e hj => by
      rw [List.getElem?_replicate] at hj
      split at hj <;> cases hj⟩
  slots := fun j s hj => by
    rw [List.getElem?_replicate] at hj
    split at hj
    · cases hj
      trivial
    · cases hj
/-- the slot i holds the locked dict, and the others hold none -/
def Unl (i : Nat) (a : Addr) (ds : List (Key × D)) (e : Vn) : Prop := e[i]? = some (.p (.lkd a ds)) ∧ ∀ (j : Nat) s, j ≠ i → e[j]? = some s → s.noD = true
theorem unl_of {i : Nat} {a : Addr} {ds : List (Key × D)} {e : Vn} (h1 : e[i]? = some (.p (.lkd a ds))) (h2 : (e.set i .u).all Slot.noD = true) : Unl i a ds e := ⟨h1, fun j s hj hs => List.all_eq_true.mp h2 s (by
  refine List.mem_of_getElem? (i := j) ?_
  rw [List.getElem?_set_ne (Ne.symm hj)]
  exact hs)⟩
def XV.noD : XV → Bool
  | .p d => D.noD 9 d
  | _ => false
/-- a statement that walks a slot's own dict -/
theorem vs_lockM {i : Nat} {t : TS} {ds : List (Key × D)} (hd : env[i]? = some (.mu (.dct ds)))
    (h : ∀ a, VS K G B t (env.set i (.p (.lkd a ds))) (fun e => Unl i a ds e ∧ nx (e.set i (.mu (.dct ds)))) (fun x => x.noD = true ∧ rt x) (fun e => Unl i a ds e ∧ bk (e.set i (.mu (.dct ds)))) (fun e => Unl i a ds e ∧ ct (e.set i (.mu (.dct ds))))) :
    VS K G B (tLock t) env nx rt bk ct := fun σ R H r Z kn kr kb kc => by
  obtain ⟨a, y, h1, hB, hR, hH, hm⟩ := r.slots i _ hd
  obtain ⟨xs, rfl⟩ : ∃ xs, y = .dK xs := by cases y <;> first | exact ⟨_, rfl⟩ | exact hm.elim
  have hA : AtD K R xs ds := hm
  refine ⟨a, .dK xs, hH, trivial, fun o => ?_⟩
  have r1 := r.lock (o := o) hd h1 hB hR hH hA
  have key : ∀ {R' : Hp}, Same (upd R a (.frz o (.dK xs))) R' → R' a = some (.frz o (.dK xs)) ∧ Same R (without R' a) := fun {R'} s => ⟨s a _ upd_same, fun b x e => by
    have hb : b ≠ a := fun z => by rw [z, hR] at e; cases e
    rw [without_ne hb]
    exact s b x (by rw [upd_ne hb]; exact e)⟩
  have fin : ∀ {e : Vn} {σ' R' H'}, Rep K G B e σ' R' H' → Same (upd R a (.frz o (.dK xs))) R' → Unl i a ds e → H' a = some (.frz o (.dK xs)) ∧ Rep K G B (e.set i (.mu (.dct ds))) σ' (without R' a) (upd H' a (.dK xs)) := fun r' s' u => by
    obtain ⟨k1, k2⟩ := key s'
    exact ⟨r'.sub.of k1 (fun φ z => by cases z), r'.unlock u.1 hB k1 u.2 (hA.same k2)⟩
  refine h a σ _ _ r1 _ (fun e σ' R' H' r' s' ⟨u, q⟩ => ?_) (fun v e σ' R' H' x r' s' hv ⟨hn, q⟩ => ?_) (fun e σ' R' H' r' s' ⟨u, q⟩ => ?_) (fun e σ' R' H' r' s' ⟨u, q⟩ => ?_)
  · obtain ⟨f1, f2⟩ := fin r' s' u
    exact ⟨f1, kn _ σ' _ _ f2 (key s').2 q⟩
  · obtain ⟨k1, k2⟩ := key s'
    cases x with
    | p d =>
      have rb := r'.blank
      -- the slots are forgotten, the dict is unlocked
      have r2 : Rep K G B (List.replicate σ'.length .u) σ' (without R' a) (upd H' a (.dK xs)) := {
        sub0 := rb.sub0
        step := {
          same := fun b x e => by
            rw [without_ne (fun z => by subst z; rw [r.sub0.none hB] at e; cases e)]
            exact rb.step.same b x e
          sub := fun b x e => by
            by_cases hb : b = a
            · subst hb
              rw [without_same] at e
              cases e
            · rw [without_ne hb] at e
              exact subAt_eq (rb.step.sub b x e) (upd_ne hb)
          kept := fun b y e n => by
            rw [upd_ne (fun z => by subst z; rw [hB] at e; cases e)]
            exact rb.step.kept b y e n
          out := fun b y e n => by
            rw [without_ne (fun z => by subst z; rw [hB] at e; cases e)]
            exact rb.step.out b y e n }
        len := rb.len
        dist := fun j k d e _ hj _ => by
          rw [List.getElem?_replicate] at hj
          split at hj <;> cases hj
        pr := fun q hq => by
          obtain ⟨g1, g2, g3, g4⟩ := rb.pr q hq
          have hne : q.1 ≠ a := fun z => by rw [z, k1] at g2; cases g2
          exact ⟨g1, by rw [without_ne hne]; exact g2, by rw [upd_ne hne]; exact g3, g4⟩
        slots := fun j s hj => by
          rw [List.getElem?_replicate] at hj
          split at hj
          · cases hj
            trivial
          · cases hj }
      exact ⟨rb.sub.of k1 (fun φ z => by cases z), kr v _ σ' _ _ (.p d) r2 k2 (at_unl k1 9 hn hv) q⟩
    | _ => cases hn
  · obtain ⟨f1, f2⟩ := fin r' s' u
    exact ⟨f1, kb _ σ' _ _ f2 (key s').2 q⟩
  · obtain ⟨f1, f2⟩ := fin r' s' u
    exact ⟨f1, kc _ σ' _ _ f2 (key s').2 q⟩
/-- .. a term -/
theorem ve_lockM {i : Nat} {t : TE} {ds : List (Key × D)} (hd : env[i]? = some (.mu (.dct ds))) (hn : ((env.set i .u).all Slot.noD) = true)
    (h : ∀ a, VE K G B t (env.set i (.p (.lkd a ds))) fun x => x.fz fun x => x.noD = true ∧ Q x) : VE K G B (tLockE t) env Q := fun σ R H r Qh k => by
  obtain ⟨a, y, h1, hB, hR, hH, hm⟩ := r.slots i _ hd
  obtain ⟨xs, rfl⟩ : ∃ xs, y = .dK xs := by cases y <;> first | exact ⟨_, rfl⟩ | exact hm.elim
  have hA : AtD K R xs ds := hm
  refine ⟨a, .dK xs, hH, trivial, fun o => ?_⟩
  have r1 := r.lock (o := o) hd h1 hB hR hH hA
  have hi := (List.getElem?_eq_some_iff.mp hd).1
  have uu : Unl i a ds (env.set i (.p (.lkd a ds))) := unl_of (List.getElem?_set_self hi) (by rw [List.set_set]; exact hn)
  have eb : (env.set i (.p (.lkd a ds))).set i (.mu (.dct ds)) = env := by
    rw [List.set_set]
    refine List.ext_getElem? fun j => ?_
    by_cases q : i = j
    · subst q
      rw [List.getElem?_set_self hi, hd]
    · rw [List.getElem?_set_ne q]
  refine h a σ _ _ r1 _ fun v R' H' x r' s' hv q => ?_
  obtain ⟨R2, x2, r2, s2, hv2, ho, q2⟩ := hv.fz r' q
  have s3 := s'.trans s2
  have k1 : R2 a = some (.frz o (.dK xs)) := s3 a _ upd_same
  have k2 : Same R (without R2 a) := fun b x e => by
    have hb : b ≠ a := fun z => by rw [z, hR] at e; cases e
    rw [without_ne hb]
    exact s3 b x (by rw [upd_ne hb]; exact e)
  have r3 := r2.unlock uu.1 hB k1 uu.2 (hA.same k2)
  rw [eb] at r3
  cases x2 with
  | p d => exact ⟨r2.sub.of k1 (fun φ z => by cases z), k v _ _ (.p d) r3 k2 (at_unl k1 9 q2.1 hv2) q2.2⟩
  | _ => cases q2.1
/-- for k in d, d locked -/
theorem AtD.get : ∀ {vs : List (Key × V)} {ds : List (Key × D)} {i : Nat} {k : Key} {d : D}, AtD K R vs ds → ds[i]? = some (k, d) → ∃ v, vs[i]? = some (k, v) ∧ At K R v d
  | _, _, _, _, _, .nil, h => by simp at h
  | _, _, 0, _, _, .cons h _, e => by
    simp at e
    obtain ⟨rfl, rfl⟩ := e
    exact ⟨_, rfl, h⟩
  | _, _, i + 1, _, _, .cons _ t, e => by
    obtain ⟨v, h1, h2⟩ := AtD.get (i := i) t (by simpa using e)
    exact ⟨v, by simpa using h1, h2⟩
theorem keyD_at (k : Key) : At K R (kV k) (keyD k) := by
  cases k with
  | inl i => exact .int i
  | inr x => exact .str x
theorem wk_keys {a : Addr} {o : Obj} {xs : List (Key × V)} {ds : List (Key × D)} (hl : R a = some (.frz o (.dK xs))) (ha : AtD K R xs ds) : Wk K G B R (Itk a o xs) (ds.map fun p => keyD p.1) where
  go := fun B' e σ R' H' r s i d hi => by
    rw [List.getElem?_map] at hi
    cases he : ds[i]? with
    | none => rw [he] at hi; cases hi
    | some p =>
      obtain ⟨k, u⟩ := p
      rw [he] at hi
      cases hi
      obtain ⟨v, hv, _⟩ := ha.get he
      have hH : H' a = some (.frz o (.dK xs)) := r.sub.of (s a _ hl) fun φ z => by cases z
      refine ⟨⟨hH, (List.getElem?_eq_some_iff.mp hv).1⟩, ?_⟩
      rintro w H2 ⟨rfl, k', v', hk, rfl⟩
      rw [hv] at hk
      cases hk
      exact ⟨R', r, Same.refl _, keyD_at k⟩
  stop := fun B' e σ R' H' r s => ⟨r.sub.of (s a _ hl) (fun φ z => by cases z), by rw [List.length_map, ha.len]; exact Nat.le_refl _⟩
theorem vi_keys {td : TE} (h : VE K G B td env fun x => x.fz fun x => ∃ a ds, x = .p (.lkd a ds) ∧ Ql (ds.map fun p => keyD p.1)) : VI K G B (iKeys td) env Ql := fun σ R H r Qh k =>
  h σ R H r _ fun v R1 H1 x r1 s1 hv q => by
    obtain ⟨R2, x2, r2, s2, hv2, ho, a, ds, rfl, q2⟩ := hv.fz r1 q
    cases hv2 with
    | @lkd a o xs _ h1 h2 => exact ⟨_, o, rfl, .inl ⟨xs, r2.sub.of h1 (fun φ z => by cases z), k _ R2 H1 _ r2 (s1.trans s2) (wk_keys h1 h2) q2⟩⟩
end
end VL

namespace VL
open PySem PySem.Spec PyProof.Rows L2
def tDead : TS := fun _ _ _ => False
theorem ps_dead {X : Cx} {st : Stmt} : PS X st tDead := ⟨fun _ _ _ _ _ _ h => h.elim⟩
/-! ### min of a list of data that can be compared -/
def rMinD (K : PySem.W.Frag) : List V → Hp → VK → Prop := fun vs H Q => ∃ (a : Addr) (xs : List V) (d : PyData) (ds : List PyData), vs = [V.ref a] ∧ SqL K H a xs ∧ DpAll K H xs (d :: ds) ∧ PySem.W.AlikeAll (d :: ds) ∧ PyData.depthAll (d :: ds) ≤ 60 ∧
  ∀ i v, xs[i]? = some v → (d :: ds).getD i .none = PySem.W.minD d ds → Q v H
section
variable {X : Cx}
open PySem.W PySem.SeqAt in
theorem cr_minD (hc : X.calm = true) (hu : X.A.units + 64 < cLine) : CallR X (.builtin "min") (rMinD X.K) := by
  intro pins s σ H vs us Q I r h
  obtain ⟨a, xs, d, ds, rfl, hs, hd, hal, hdep, q⟩ := h
  obtain ⟨its, rv, hl, _⟩ := I.list hs
  rw [Vals.ref1 r]
  obtain ⟨as, hr⟩ := Dp.readsAll I (d :: ds) xs its hd rv
  have hr' : ReadsAll s.heap its.toArray.toList (d :: ds) as := by simpa using hr
  have hn : its.toArray.size = ds.length + 1 := readsAll_len hr'
  refine call_min_walkH (iter_listW (A := X.A.in1) (I.ok.hd hc) hl.isList fun s₂ e W st hfp hw hk => ?_)
  refine ⟨_, _, _, _, _, _, _, s.heap, _, rfl, W, st, hfp, by omega, hw, hk, cmpIn_lt (A := X.A.in1) hr' hal (by show X.A.units + 1 + _ < _; omega), fun v s' hP m => ?_⟩
  obtain ⟨h', tk, rfl, hk'⟩ := moved_old e rfl m
  have e1 : its.toArray.size - 1 = ds.length := by omega
  have e2 := (argBest_fold dataLt PyData.none d ds ds.length (Nat.le_refl _)).2
  rw [List.take_length] at e2
  rw [e1] at hP
  have hP2 : its[argBest (fun i j => dataLt ((d :: ds).getD i .none) ((d :: ds).getD j .none)) ds.length]? = some v := by simpa using hP
  have hlx : xs.length = its.length := rv.length
  have hlt := (List.getElem?_eq_some_iff.mp hP2).1
  obtain ⟨z, hz⟩ : ∃ z, xs[argBest (fun i j => dataLt ((d :: ds).getD i .none) ((d :: ds).getD j .none)) ds.length]? = some z := ⟨_, List.getElem?_eq_getElem (by omega)⟩
  obtain ⟨w, hw2, rw2⟩ := rv.get hz
  rw [hP2] at hw2
  cases hw2
  exact ⟨z, H, I.kept hk', rw2, q _ z hz e2⟩
end
section
variable {K : PySem.W.Frag} {G : List Int → Prop} {B : Bs} {env : Vn} {σ : L2.St} {R R' R1 H H' H1 : Hp} {Q : XV → Prop} {nx : Vn → Prop} {rt : XV → Prop} {bk ct : Vn → Prop} {Qe : Vn → Prop} {Qb : Bool → Prop} {Ql : List D → Prop}
def pairD (p : Int × Int) : D := .tup [.int p.1, .int p.2]
theorem pairD_py (p : Int × Int) : D.py (pairD p) = PySem.W.Datum.toD p := by
  unfold pairD
  simp only [D.py, D.pys]
  rfl
theorem pairs_py : ∀ ps : List (Int × Int), D.pys (ps.map pairD) = ps.map PySem.W.Datum.toD
  | [] => by simp only [List.map_nil, D.pys]
  | p :: r => by simp only [List.map_cons, D.pys, pairD_py, pairs_py r]
theorem pairs_cmps : ∀ ps : List (Int × Int), D.cmps (ps.map pairD) = true
  | [] => by simp only [List.map_nil, D.cmps]
  | p :: r => by simp only [List.map_cons, D.cmps, pairD, D.cmp, pairs_cmps r, Bool.and_self]
theorem minOf_le : ∀ (x : Int × Int) (xs : List (Int × Int)), (PySem.W.minOf x xs).1 ≤ x.1 ∧ (∀ y ∈ xs, (PySem.W.minOf x xs).1 ≤ y.1) ∧ (PySem.W.minOf x xs = x ∨ PySem.W.minOf x xs ∈ xs)
  | x, [] => ⟨Int.le_refl _, fun _ h => (by cases h), .inl rfl⟩
  | x, y :: r => by
    have e : PySem.W.minOf x (y :: r) = PySem.W.minOf (if PySem.W.DatumOrd.lt y x = true then y else x) r := rfl
    by_cases hlt : PySem.W.DatumOrd.lt y x = true
    · rw [e, if_pos hlt]
      obtain ⟨h1, h2, h3⟩ := minOf_le y r
      have hyx : y.1 ≤ x.1 := by
        have hlt' : (if y.1 = x.1 then PySem.W.DatumOrd.lt y.2 x.2 else PySem.W.DatumOrd.lt y.1 x.1) = true := hlt
        by_cases q : y.1 = x.1
        · omega
        · rw [if_neg q] at hlt'
          have : decide (y.1 < x.1) = true := hlt'
          have := of_decide_eq_true this
          omega
      refine ⟨by omega, fun z hz => ?_, ?_⟩
      · rcases List.mem_cons.mp hz with rfl | hz
        · exact h1
        · exact h2 z hz
      · rcases h3 with h3 | h3
        · exact .inr (by rw [h3]; exact List.mem_cons_self)
        · exact .inr (List.mem_cons_of_mem _ h3)
    · rw [e, if_neg hlt]
      obtain ⟨h1, h2, h3⟩ := minOf_le x r
      have hyx : x.1 ≤ y.1 := by
        have hlt' : ¬ (if y.1 = x.1 then PySem.W.DatumOrd.lt y.2 x.2 else PySem.W.DatumOrd.lt y.1 x.1) = true := hlt
        by_cases q : y.1 = x.1
        · omega
        · rw [if_neg q] at hlt'
          have : ¬ decide (y.1 < x.1) = true := hlt'
          have h8 : x.1 ≤ y.1 := by simpa using this
          exact h8
      refine ⟨h1, fun z hz => ?_, ?_⟩
      · rcases List.mem_cons.mp hz with rfl | hz
        · omega
        · exact h2 z hz
      · rcases h3 with h3 | h3
        · exact .inl h3
        · exact .inr (List.mem_cons_of_mem _ h3)
/-- min(ps), ps a list of pairs of whole numbers -/
theorem vc_minP {x : XV} {ps : List (Int × Int)} (hx : x.seqL = some (ps.map pairD)) (hne : ps ≠ []) (q : ∀ m ∈ ps, (∀ y ∈ ps, m.1 ≤ y.1) → Q (.p (pairD m))) : VC K G B (rMinD K) env [x] Q := vc1 fun σ R H r v hv Qh k => by
  obtain ⟨p, r2, rfl⟩ : ∃ p r, ps = p :: r := by
    cases ps with
    | nil => exact absurd rfl hne
    | cons p r => exact ⟨p, r, rfl⟩
  obtain ⟨a, xs, rfl, h1, h2⟩ := seqL_at r hv hx
  have hdp : DpAll K H xs (PySem.W.Datum.toD p :: r2.map PySem.W.Datum.toD) := by
    have := at_dps r.sub h2 (pairs_cmps _)
    rw [pairs_py, List.map_cons] at this
    exact this
  have hal : PySem.W.AlikeAll (PySem.W.Datum.toD p :: r2.map PySem.W.Datum.toD) := PySem.W.alikeAll_datum (p :: r2)
  have hdep : PyData.depthAll (PySem.W.Datum.toD p :: r2.map PySem.W.Datum.toD) ≤ 60 := Nat.le_trans (PySem.W.depthAll_map (p :: r2)) (by decide)
  refine ⟨a, xs, _, _, rfl, h1, hdp, hal, hdep, fun i z hz hm => ?_⟩
  rw [PySem.W.minD_map] at hm
  obtain ⟨m1, m2, m3⟩ := minOf_le p r2
  have hi : i < (p :: r2).length := by
    have := (List.getElem?_eq_some_iff.mp hz).1
    rw [h2.len, List.length_map] at this
    exact this
  have hpi : (p :: r2)[i]? = some (p :: r2)[i] := List.getElem?_eq_getElem hi
  have e3 : PySem.W.Datum.toD ((p :: r2)[i]) = PySem.W.Datum.toD (PySem.W.minOf p r2) := by
    have : ((p :: r2).map (PySem.W.Datum.toD (α := Int × Int))).getD i .none = PySem.W.Datum.toD ((p :: r2)[i]) := by
      rw [List.getD_eq_getElem?_getD, List.getElem?_map, hpi]
      rfl
    rw [← hm, ← this]
    rfl
  have e4 : (p :: r2)[i] = PySem.W.minOf p r2 := by
    generalize (p :: r2)[i] = u at e3
    generalize PySem.W.minOf p r2 = w at e3
    obtain ⟨u1, u2⟩ := u
    obtain ⟨w1, w2⟩ := w
    have e5 : PyData.tuple [.int u1, .int u2] = .tuple [.int w1, .int w2] := e3
    cases e5
    rfl
  obtain ⟨z', hz', hat⟩ := h2.get (i := i) (d := pairD (p :: r2)[i]) (by rw [List.getElem?_map, hpi]; rfl)
  rw [hz] at hz'
  cases hz'
  refine k z R H (.p (pairD (p :: r2)[i])) r (Same.refl R) hat (q _ (List.getElem_mem hi) fun y hy => ?_)
  rw [e4]
  rcases List.mem_cons.mp hy with rfl | hy
  · exact m1
  · exact m2 y hy
theorem vc_minI {x : XV} {ns : List Int} (hx : x.seqL = some (ns.map D.int)) (hne : ns ≠ []) (q : ∀ m ∈ ns, (∀ y ∈ ns, m ≤ y) → Q (.p (.int m))) : VC K G B (rMin K) env [x] Q := vc1 fun σ R H r v hv Qh k => by
  obtain ⟨a, rfl, h1⟩ := ints_at r hv hx
  exact ⟨a, ns, rfl, h1, List.length_pos_iff.mpr hne, fun m hm hy => k _ R H (.p (.int m)) r (Same.refl R) (.int m) (q m hm hy)⟩
theorem vc_maxI {x : XV} {ns : List Int} (hx : x.seqL = some (ns.map D.int)) (hne : ns ≠ []) (q : ∀ m ∈ ns, (∀ y ∈ ns, y ≤ m) → Q (.p (.int m))) : VC K G B (rMax K) env [x] Q := vc1 fun σ R H r v hv Qh k => by
  obtain ⟨a, rfl, h1⟩ := ints_at r hv hx
  exact ⟨a, ns, rfl, h1, List.length_pos_iff.mpr hne, fun m hm hy => k _ R H (.p (.int m)) r (Same.refl R) (.int m) (q m hm hy)⟩
/-! ### len(d), list(d) of a slot's own dict or a plain one -/
def XV.exD : XV → Option (List (Key × D))
  | .p (.dct ds) => some ds
  | .m _ (.dct ds) => some ds
  | _ => none
theorem exD_at (r : Rep K G B env σ R H) {v : V} {x : XV} {ds : List (Key × D)} (h : VAt K B env σ R H v x) (e : x.exD = some ds) : ∃ a xs, v = .ref a ∧ H a = some (.dK xs) ∧ AtD K R xs ds := by
  cases x with
  | p d =>
    cases d with
    | dct es =>
      cases e
      cases h with
      | @dct a xs _ h1 h2 => exact ⟨a, xs, rfl, r.sub.of h1 (fun φ z => by cases z), h2⟩
    | _ => cases e
  | o d => cases e
  | m i d =>
    cases d with
    | dct es =>
      cases e
      obtain ⟨h1, h2⟩ := h
      obtain ⟨a, y, g1, g2, g3, g4, g5⟩ := r.slots i _ h1
      rw [g1] at h2
      cases h2
      cases y with
      | dK xs => exact ⟨a, xs, rfl, g4, g5⟩
      | _ => exact g5.elim
    | _ => cases e
theorem vc_lenD {x : XV} {ds : List (Key × D)} (hx : x.exD = some ds) (q : Q (.p (.int ds.length))) : VC K G B (fun xs H Q => ∃ a kvs, xs = [V.ref a] ∧ H a = some (.dK kvs) ∧ Q (.int kvs.length) H) env [x] Q := vc1 fun σ R H r v hv Qh k => by
  obtain ⟨a, xs, rfl, h1, h2⟩ := exD_at r hv hx
  exact ⟨a, xs, rfl, h1, by rw [h2.len]; exact k _ R H (.p (.int _)) r (Same.refl R) (.int _) q⟩
theorem AtD.keys : ∀ {xs : List (Key × V)} {ds : List (Key × D)}, AtD K R xs ds → AtL K R (xs.map fun kv => kV kv.1) (ds.map fun p => keyD p.1)
  | _, _, .nil => .nil
  | _, _, .cons h t => .cons (keyD_at _) (AtD.keys t)
theorem vc_listD {x : XV} {ds : List (Key × D)} (hx : x.exD = some ds) (q : Q (.o (.lst (ds.map fun p => keyD p.1)))) : VC K G B rListD env [x] Q := vc1 fun σ R H r v hv Qh k => by
  obtain ⟨a, xs, rfl, h1, h2⟩ := exD_at r hv hx
  refine ⟨a, xs, rfl, h1, fun p hp => ?_⟩
  obtain ⟨r2, v2⟩ := own_lst r hp h2.keys
  exact k _ R _ _ r2 (Same.refl R) v2 q
/-! ### a slot is forgotten -/
theorem Rep.forget (r : Rep K G B env σ R H) (i : Nat) : Rep K G B (env.set i .u) σ R H where
  sub0 := r.sub0
  step := r.step
  len := by rw [List.length_set]; exact r.len
  dist := fun j k d e hjk hj hk => by
    by_cases q : i = j
    · subst q
      have hi := (List.getElem?_eq_some_iff.mp hj).1
      rw [List.length_set] at hi
      rw [List.getElem?_set_self hi] at hj
      cases hj
    · by_cases q2 : i = k
      · subst q2
        have hi := (List.getElem?_eq_some_iff.mp hk).1
        rw [List.length_set] at hi
        rw [List.getElem?_set_self hi] at hk
        cases hk
      · rw [List.getElem?_set_ne q] at hj
        rw [List.getElem?_set_ne q2] at hk
        exact r.dist j k d e hjk hj hk
  pr := fun q hq => by
    obtain ⟨g1, g2, g3, g4⟩ := r.pr q hq
    refine ⟨g1, g2, g3, fun j e hj => ?_⟩
    by_cases q : i = j
    · subst q
      have hi := (List.getElem?_eq_some_iff.mp hj).1
      rw [List.length_set] at hi
      rw [List.getElem?_set_self hi] at hj
      cases hj
    · rw [List.getElem?_set_ne q] at hj
      exact g4 j e hj
  slots := fun j s hj => by
    by_cases q : i = j
    · subst q
      have hi := (List.getElem?_eq_some_iff.mp hj).1
      rw [List.length_set] at hi
      rw [List.getElem?_set_self hi] at hj
      cases hj
      trivial
    · rw [List.getElem?_set_ne q] at hj
      exact r.slots j s hj
theorem vs_forget (i : Nat) {t : TS} (h : VS K G B t (env.set i .u) nx rt bk ct) : VS K G B t env nx rt bk ct := fun σ R H r => h σ R H (r.forget i)
theorem vs_frz (i : Nat) {t : TS} {d : D} (h0 : env[i]? = some (.p d) ∨ env[i]? = some (.mu d)) (h : VS K G B t (env.set i (.p d)) nx rt bk ct) : VS K G B t env nx rt bk ct := by
  rcases h0 with h0 | h0
  · have hi := (List.getElem?_eq_some_iff.mp h0).1
    have e : env.set i (.p d) = env := by
      refine List.ext_getElem? fun j => ?_
      by_cases q : i = j
      · subst q
        rw [List.getElem?_set_self hi, h0]
      · rw [List.getElem?_set_ne q]
    rw [e] at h
    exact h
  · exact vs_freeze i h0 h
/-! ### a statement that is not reached -/
theorem vs_dead (h : False) : VS K G B tDead env nx rt bk ct := h.elim
end
end VL

/-! ### the draws: a list of whole numbers, one at least -/
namespace N
open PySem L2 VL
def Gd (ns : List Int) : Prop := ns ≠ [] ∧ ns.length ≤ 100
end N

namespace N
open PySem L2 VL
def soFar : Int → List Int → List Int
  | _, [] => []
  | t, x :: r => (t + x) :: soFar (t + x) r
theorem soFar_app : ∀ (t : Int) (l : List Int) (x : Int), soFar t (l ++ [x]) = soFar t l ++ [t + l.sum + x]
  | t, [], x => by simp [soFar]
  | t, y :: r, x => by
    rw [List.cons_append, soFar, soFar, soFar_app (t + y) r x, List.sum_cons, List.cons_append]
    congr 3
    omega
theorem soFar_len : ∀ (t : Int) (l : List Int), (soFar t l).length = l.length
  | _, [] => rfl
  | t, x :: r => by rw [soFar, List.length_cons, List.length_cons, soFar_len]
theorem take_one {α : Type} {l : List α} {i : Nat} {x : α} (h : l[i]? = some x) : l.take (i + 1) = l.take i ++ [x] := by
  rw [List.take_add_one, h]
  rfl
theorem map_get {α β : Type} {f : α → β} {l : List α} {i : Nat} {d : β} (h : (l.map f)[i]? = some d) : ∃ x, l[i]? = some x ∧ d = f x := by
  rw [List.getElem?_map] at h
  cases e : l[i]? with
  | none =>
    rw [e] at h
    cases h
  | some x =>
    rw [e] at h
    exact ⟨x, rfl, (Option.some.inj h).symm⟩
theorem lt_of_get {α : Type} {l : List α} {i : Nat} {x : α} (h : l[i]? = some x) : i < l.length := (List.getElem?_eq_some_iff.mp h).1
end N

--@uses draw1 so_far
namespace N
open PySem L2 VL
abbrev Tm := Option Int × Int × Int
def oi : Option Int → D
  | none => .non
  | some i => .int i
def tmD (t : Tm) : D := .tup [oi t.1, .int t.2.1, .int t.2.2]
/-- the terms of a day as the laws draw them -/
structure TermOk (t : Tm) : Prop where
  s : ∀ x, t.1 = some x → 0 ≤ x ∧ x < 160
  p0 : 0 ≤ t.2.1
  p1 : t.2.1 < 40
  k0 : 0 ≤ t.2.2
  k1 : t.2.2 < 40
theorem pick2k {a b : D} {k : Int} (h0 : 0 ≤ k) (h1 : k < 2) : ∃ d, atI [a, b] k = some d ∧ (d = a ∨ d = b) := by
  have h : k = 0 ∨ k = 1 := by omega
  rcases h with h | h <;> rw [h]
  · exact ⟨a, atI_nat (j := 0) rfl, .inl rfl⟩
  · exact ⟨b, atI_nat (j := 1) rfl, .inr rfl⟩
theorem pick3k {a b c : D} {k : Int} (h0 : 0 ≤ k) (h1 : k < 3) : ∃ d, atI [a, b, c] k = some d ∧ (d = a ∨ d = b ∨ d = c) := by
  have h : k = 0 ∨ k = 1 ∨ k = 2 := by omega
  rcases h with h | h | h <;> rw [h]
  · exact ⟨a, atI_nat (j := 0) rfl, .inl rfl⟩
  · exact ⟨b, atI_nat (j := 1) rfl, .inr (.inl rfl)⟩
  · exact ⟨c, atI_nat (j := 2) rfl, .inr (.inr rfl)⟩
theorem cons_of_ne {α : Type} {l : List α} (h : l ≠ []) : ∃ x r, l = x :: r := by
  cases l with
  | nil => exact absurd rfl h
  | cons x r => exact ⟨x, r, rfl⟩
/-- what is wanted where nothing can be ordered is nought -/
def Served (ts : List Tm) (ws : List Int) : Prop := ∀ (i : Nat) (w : Int), ws[i]? = some w → w ≠ 0 → ∃ (j : Nat) (t : Tm), j ≤ i ∧ ts[j]? = some t ∧ t.1 ≠ none
structure WantOk (ws : List Int) : Prop where
  b : ∀ w ∈ ws, 0 ≤ w ∧ w < 10 ^ 41
theorem oi_isN (s : Option Int) : (oi s).isNon = s.isNone := by cases s <;> rfl
theorem hu1 {env : Vn} {v : Nat} (h : env[v]? = some .u) : ∀ w ∈ [v], env[w]? = some .u := fun w hw => by
  cases List.mem_singleton.mp hw
  exact h
theorem hu2 {env : Vn} {v u : Nat} (h : env[v]? = some .u) (h2 : env[u]? = some .u) : ∀ w ∈ [v, u], env[w]? = some .u := fun w hw => by
  rcases List.mem_cons.mp hw with rfl | hw
  · exact h
  · exact hu1 h2 w hw
theorem hu3 {env : Vn} {v u t : Nat} (h : env[v]? = some .u) (h2 : env[u]? = some .u) (h3 : env[t]? = some .u) : ∀ w ∈ [v, u, t], env[w]? = some .u := fun w hw => by
  rcases List.mem_cons.mp hw with rfl | hw
  · exact h
  · exact hu2 h2 h3 w hw
theorem sIx_end (n d : Nat) : HT.sIx n d none = d := rfl
theorem cutD_mid {α : Type} (f : α → D) (l : List α) {a b : Int} (ha : 0 ≤ a) (hb : 0 ≤ b) : cutD (l.map f) (some a) (some b) = ((l.take b.toNat).drop a.toNat).map f := by
  unfold cutD
  rw [List.length_map, sIx_nn ha, sIx_nn hb, ← List.map_drop, ← List.map_take, List.drop_take]
  congr 1
  by_cases h : a.toNat ≤ l.length
  · rw [Nat.min_eq_left h]
    by_cases h2 : b.toNat ≤ l.length
    · rw [Nat.min_eq_left h2]
    · rw [Nat.min_eq_right (by omega), List.take_of_length_le (by rw [List.length_drop]; omega), List.take_of_length_le (by rw [List.length_drop]; omega)]
  · rw [Nat.min_eq_right (a := a.toNat) (b := l.length) (by omega), List.drop_of_length_le (Nat.le_refl _), List.drop_of_length_le (by omega), List.take_nil, List.take_nil]
theorem cutD_take {α : Type} (f : α → D) (l : List α) {b : Int} (hb : 0 ≤ b) : cutD (l.map f) none (some b) = (l.take b.toNat).map f := by
  have h := cutD_mid f l (a := 0) (Int.le_refl 0) hb
  rw [show (0 : Int).toNat = 0 from rfl, List.drop_zero] at h
  exact h
theorem cutD_drop {α : Type} (f : α → D) (l : List α) {a : Int} (ha : 0 ≤ a) : cutD (l.map f) (some a) none = (l.drop a.toNat).map f := by
  have h := cutD_mid f l (a := a) (b := l.length) ha (by omega)
  rw [Int.toNat_natCast, List.take_length] at h
  rw [← h]
  unfold cutD
  rw [List.length_map, sIx_nn (k := (l.length : Int)) (by omega), sIx_end, Int.toNat_natCast, Nat.min_self]
theorem ixN_nat {n j : Nat} (h : j < n) : ixN n (j : Int) = some j := by
  unfold ixN
  rw [if_pos (by omega), if_pos (by omega)]
  simp
theorem atI_get {α : Type} (f : α → D) {l : List α} {j : Nat} {x : α} (h : l[j]? = some x) : atI (l.map f) (j : Int) = some (f x) := atI_nat (by rw [List.getElem?_map, h]; rfl)
theorem cmpN_list {n : Nat} {ds : List D} (h : ∀ d ∈ ds, D.cmpN n d = true) : D.cmpN (n + 1) (.lst ds) = true := by
  show ds.all (D.cmpN n) = true
  exact List.all_eq_true.mpr h
theorem cmpN_tm (n : Nat) (t : Tm) : D.cmpN (n + 2) (tmD t) = true := by
  obtain ⟨s, p, k⟩ := t
  cases s <;> rfl
theorem cmpN_tms (n : Nat) (ts : List Tm) : D.cmpN (n + 3) (.lst (ts.map tmD)) = true := cmpN_list fun d hd => by
  obtain ⟨t, _, rfl⟩ := List.mem_map.mp hd
  exact cmpN_tm n t
end N

--@uses terms
namespace N
open PySem L2 VL
/-- orders that are none -/
def costBad (l w : Int) (tm : Tm) (a : Int) : Bool := decide (a < 0) || (decide (l + (a - w) < 0) || (decide (0 < a) && tm.1.isNone))
def costAdd (tm : Tm) (a : Int) : Int := if 0 < a then tm.1.getD 0 + tm.2.1 * a else 0
def costGo : Int → Int → List (Int × Tm × Int) → Option Int
  | _, t, [] => some t
  | l, t, (w, tm, a) :: r => if costBad l w tm a then none else costGo (l + (a - w)) (t + costAdd tm a + tm.2.2 * (l + (a - w))) r
def costOf (ws : List Int) (ts : List Tm) (os : List Int) : Option Int := costGo 0 0 (ws.zip (ts.zip os))
theorem zip3_get {ws : List Int} {ts : List Tm} {os : List Int} {i : Nat} {w a : Int} {t : Tm} (h1 : ws[i]? = some w) (h2 : ts[i]? = some t) (h3 : os[i]? = some a) : (ws.zip (ts.zip os))[i]? = some (w, t, a) :=
  List.getElem?_zip_eq_some.mpr ⟨h1, List.getElem?_zip_eq_some.mpr ⟨h2, h3⟩⟩
theorem drop_one {α : Type} {l : List α} {i : Nat} {x : α} (h : l[i]? = some x) : l.drop i = x :: l.drop (i + 1) := by
  obtain ⟨h1, h2⟩ := List.getElem?_eq_some_iff.mp h
  rw [List.drop_eq_getElem_cons h1, h2]
theorem costGo_bad {l t w a : Int} {tm : Tm} {r : List (Int × Tm × Int)} (h : costBad l w tm a = true) : costGo l t ((w, tm, a) :: r) = none := by
  show (if costBad l w tm a = true then _ else _) = _
  rw [if_pos h]
theorem costGo_good {l t w a : Int} {tm : Tm} {r : List (Int × Tm × Int)} (h : costBad l w tm a = false) : costGo l t ((w, tm, a) :: r) = costGo (l + (a - w)) (t + costAdd tm a + tm.2.2 * (l + (a - w))) r := by
  show (if costBad l w tm a = true then _ else _) = _
  rw [h]
  rfl
theorem chainC {a c : List Int} {b : List Tm} {i : Nat} {d : D} (h : (zipD3 (a.map D.int) (b.map tmD) (c.map D.int))[i]? = some d) : ∃ x y z, a[i]? = some x ∧ b[i]? = some y ∧ c[i]? = some z ∧ d = .tup [.int x, tmD y, .int z] := by
  obtain ⟨p, q, r, h1, h2, h3, rfl⟩ := zipD3_get h
  obtain ⟨x, hx, rfl⟩ := map_get h1
  obtain ⟨y, hy, rfl⟩ := map_get h2
  obtain ⟨z, hz, rfl⟩ := map_get h3
  exact ⟨x, y, z, hx, hy, hz, rfl⟩
end N

--@uses cost
namespace N
open PySem L2 VL
/-- the keeps of the days ahead of a day -/
def kpGo : Int → List Tm → List Int
  | _, [] => []
  | t, x :: r => t :: kpGo (t + x.2.2) r
def kept (ts : List Tm) : List Int := kpGo 0 ts
def keepSum (ts : List Tm) (i : Nat) : Int := ((ts.take i).map fun t => t.2.2).sum
theorem kpGo_len : ∀ (t : Int) (ts : List Tm), (kpGo t ts).length = ts.length
  | _, [] => rfl
  | _, _ :: r => congrArg (· + 1) (kpGo_len _ r)
theorem kpGo_app : ∀ (t : Int) (ts : List Tm) (x : Tm), kpGo t (ts ++ [x]) = kpGo t ts ++ [t + (ts.map fun t => t.2.2).sum]
  | t, [], x => by simp [kpGo]
  | t, y :: r, x => by
    show t :: kpGo (t + y.2.2) (r ++ [x]) = t :: (kpGo (t + y.2.2) r ++ [_])
    rw [kpGo_app _ r x, List.map_cons, List.sum_cons, Int.add_assoc]
theorem kpGo_get : ∀ (t : Int) (ts : List Tm) (i : Nat), i < ts.length → (kpGo t ts)[i]? = some (t + keepSum ts i)
  | _, [], _, h => absurd h (Nat.not_lt_zero _)
  | t, y :: r, 0, _ => by simp [kpGo, keepSum]
  | t, y :: r, i + 1, h => by
    have ih := kpGo_get (t + y.2.2) r i (Nat.lt_of_succ_lt_succ h)
    show (kpGo (t + y.2.2) r)[i]? = _
    rw [ih]
    unfold keepSum
    rw [List.take_succ_cons, List.map_cons, List.sum_cons, Int.add_assoc]
theorem kept_get {ts : List Tm} {i : Nat} (h : i < ts.length) : (kept ts)[i]? = some (keepSum ts i) := by
  unfold kept
  rw [kpGo_get 0 ts i h, Int.zero_add]
/-- what it costs to serve day d from day s -/
def srv (ws : List Int) (ts : List Tm) (s d : Nat) : Int := ws.getD d 0 * ((ts.getD s (none, 0, 0)).2.1 + keepSum ts d - keepSum ts s)
/-- what values put on day s, of the days ahead of k -/
def ld (ws : List Int) (ts : List Tm) (vs : List Int) (s : Nat) : Nat → Int
  | 0 => 0
  | k + 1 => ld ws ts vs s k + if s ≤ k then max 0 (vs.getD k 0 - srv ws ts s k) else 0
theorem getD_of {α : Type} {l : List α} {i : Nat} {x d : α} (h : l[i]? = some x) : l.getD i d = x := by
  rw [List.getD_eq_getElem?_getD, h]
  rfl
theorem ld_low (ws : List Int) (ts : List Tm) (vs : List Int) (s : Nat) : ∀ k, k ≤ s → ld ws ts vs s k = 0
  | 0, _ => rfl
  | k + 1, h => by
    show ld ws ts vs s k + (if s ≤ k then _ else 0) = 0
    rw [if_neg (by omega), ld_low ws ts vs s k (by omega)]
    rfl
theorem keepSum_nn {ts : List Tm} (h : ∀ t ∈ ts, TermOk t) : ∀ i, 0 ≤ keepSum ts i ∧ keepSum ts i ≤ 40 * i
  | 0 => by simp [keepSum]
  | i + 1 => by
    have ih := keepSum_nn h i
    cases e : ts[i]? with
    | none =>
      have hl : ts.length ≤ i := List.getElem?_eq_none_iff.mp e
      have : keepSum ts (i + 1) = keepSum ts i := by
        unfold keepSum
        rw [List.take_of_length_le hl, List.take_of_length_le (by omega)]
      rw [this]
      omega
    | some t =>
      have ht := h t (List.mem_of_getElem? e)
      have h0 := ht.k0
      have h1 := ht.k1
      have : keepSum ts (i + 1) = keepSum ts i + t.2.2 := by
        unfold keepSum
        rw [take_one e, List.map_append, List.sum_append]
        simp
      rw [this]
      omega
theorem keepSum_mono {ts : List Tm} (h : ∀ t ∈ ts, TermOk t) {i : Nat} : ∀ {j}, i ≤ j → keepSum ts i ≤ keepSum ts j
  | 0, hij => by
    have : i = 0 := by omega
    subst this
    exact Int.le_refl _
  | j + 1, hij => by
    by_cases e : i = j + 1
    · rw [e]
      exact Int.le_refl _
    · have ih := keepSum_mono h (i := i) (j := j) (by omega)
      cases e : ts[j]? with
      | none =>
        have hl : ts.length ≤ j := List.getElem?_eq_none_iff.mp e
        have : keepSum ts (j + 1) = keepSum ts j := by
          unfold keepSum
          rw [List.take_of_length_le hl, List.take_of_length_le (by omega)]
        rw [this]
        exact ih
      | some t =>
        have h0 := (h t (List.mem_of_getElem? e)).k0
        have : keepSum ts (j + 1) = keepSum ts j + t.2.2 := by
          unfold keepSum
          rw [take_one e, List.map_append, List.sum_append]
          simp
        rw [this]
        omega
end N

--@uses serve
namespace N
open PySem L2 VL
def RightA (ws vs : List Int) (n : Nat) : Prop := ∀ (i : Nat) (w v : Int), i < n → ws[i]? = some w → vs[i]? = some v → 0 ≤ v ∧ (w = 0 → v ≤ 0)
def RightB (ws : List Int) (ts : List Tm) (vs : List Int) (n : Nat) : Prop := ∀ (i : Nat) (t : Tm) (s : Int), i < n → ts[i]? = some t → t.1 = some s → ld ws ts vs i ws.length ≤ s
/-- values that are right -/
def RightV (ws : List Int) (ts : List Tm) (vs : List Int) : Prop := RightA ws vs ws.length ∧ RightB ws ts vs ws.length
theorem RightA.step {ws vs : List Int} {n : Nat} {w v : Int} (h : RightA ws vs n) (hw : ws[n]? = some w) (hv : vs[n]? = some v) (q : 0 ≤ v ∧ (w = 0 → v ≤ 0)) : RightA ws vs (n + 1) := fun i w' v' hi h1 h2 => by
  by_cases e : i = n
  · subst e
    rw [hw] at h1
    rw [hv] at h2
    cases h1
    cases h2
    exact q
  · exact h i w' v' (by omega) h1 h2
theorem RightB.step {ws vs : List Int} {ts : List Tm} {n : Nat} {t : Tm} (h : RightB ws ts vs n) (ht : ts[n]? = some t) (q : ∀ s, t.1 = some s → ld ws ts vs n ws.length ≤ s) : RightB ws ts vs (n + 1) := fun i t' s hi h1 h2 => by
  by_cases e : i = n
  · subst e
    rw [ht] at h1
    cases h1
    exact q s h2
  · exact h i t' s (by omega) h1 h2
end N

--@uses right
namespace N
open PySem L2 VL
/-! dicts of whole numbers by whole numbers -/
def keysD (ss : List Nat) (f : Nat → Int) : List (Key × D) := ss.map fun s : Nat => (.inl (s : Int), .int (f s))
theorem find_keys (f : Nat → Int) {s : Nat} : ∀ {ss : List Nat}, s ∈ ss → ((keysD ss f).find? fun kv => decide (kv.1 = .inl (s : Int))) = some (.inl (s : Int), .int (f s))
  | [], h => by cases h
  | t :: r, h => by
    show (List.find? _ ((Sum.inl (t : Int), D.int (f t)) :: keysD r f)) = _
    by_cases e : t = s
    · subst e
      rw [List.find?_cons_of_pos (by simp)]
    · rw [List.find?_cons_of_neg (by
        simp only [decide_eq_true_eq]
        intro z
        cases z
        exact e rfl)]
      rcases List.mem_cons.mp h with q | q
      · exact absurd q.symm e
      · exact find_keys f q
theorem valD_keys {ss : List Nat} {f : Nat → Int} {s : Nat} (h : s ∈ ss) : valD (keysD ss f) (.inl (s : Int)) = some (.int (f s)) := by
  unfold valD
  rw [find_keys f h]
  rfl
theorem any_keys {ss : List Nat} {f : Nat → Int} {s : Nat} : ((keysD ss f).any fun kv => decide (kv.1 = (.inl (s : Int) : Key))) = decide (s ∈ ss) := by
  rw [Bool.eq_iff_iff, List.any_eq_true, decide_eq_true_iff]
  constructor
  · rintro ⟨p, hp, e⟩
    obtain ⟨t, ht, rfl⟩ := List.mem_map.mp hp
    have e2 : (Sum.inl (t : Int) : Key) = .inl (s : Int) := of_decide_eq_true e
    have e3 : (t : Int) = s := Sum.inl.inj e2
    have e4 : t = s := by omega
    rw [← e4]
    exact ht
  · intro h
    exact ⟨_, List.mem_map_of_mem h, by simp⟩
theorem putD_new {ss : List Nat} {f : Nat → Int} {s : Nat} {x : Int} (h : s ∉ ss) : putD (keysD ss f) (.inl (s : Int)) (.int x) = keysD (ss ++ [s]) (fun t => if t = s then x else f t) := by
  unfold putD
  rw [if_neg (by rw [any_keys]; simpa using h)]
  unfold keysD
  rw [List.map_append]
  congr 1
  · refine List.map_congr_left fun t ht => ?_
    show (Sum.inl (t : Int), D.int (f t)) = (Sum.inl (t : Int), D.int (if t = s then x else f t))
    rw [if_neg (fun z : t = s => h (by rw [← z]; exact ht))]
  · simp
theorem putD_old {ss : List Nat} {f : Nat → Int} {s : Nat} {x : Int} (h : s ∈ ss) : putD (keysD ss f) (.inl (s : Int)) (.int x) = keysD ss (fun t => if t = s then x else f t) := by
  unfold putD
  rw [if_pos (by rw [any_keys]; simpa using h)]
  unfold keysD
  rw [List.map_map]
  refine List.map_congr_left fun t ht => ?_
  show (if (Sum.inl (t : Int) : Key) = .inl (s : Int) then _ else _) = _
  by_cases e : t = s
  · subst e
    rw [if_pos rfl]
    show _ = ((Sum.inl (t : Int) : Key), D.int (if t = t then x else f t))
    rw [if_pos rfl]
  · rw [if_neg (fun z => e (by have := Sum.inl.inj z; omega))]
    show _ = ((Sum.inl (t : Int) : Key), D.int (if t = s then x else f t))
    rw [if_neg e]
theorem keysD_congr {ss : List Nat} {f g : Nat → Int} (h : ∀ s ∈ ss, f s = g s) : keysD ss f = keysD ss g := List.map_congr_left fun (s : Nat) hs => by rw [h s hs]
theorem keysD_keys (ss : List Nat) (f : Nat → Int) : ((keysD ss f).map fun p => keyD p.1) = ss.map fun s : Nat => D.int (s : Int) := by
  unfold keysD
  rw [List.map_map]
  rfl
/-- the days ahead of d on which something can be ordered -/
def opens (ts : List Tm) : Nat → List Nat
  | 0 => []
  | d + 1 => if (ts.getD d (none, 0, 0)).1.isSome then opens ts d ++ [d] else opens ts d
theorem opens_lt (ts : List Tm) : ∀ (d s : Nat), s ∈ opens ts d ↔ s < d ∧ (ts.getD s (none, 0, 0)).1.isSome = true
  | 0, s => ⟨fun h => (by cases h), fun h => absurd h.1 (Nat.not_lt_zero _)⟩
  | d + 1, s => by
    have ih := opens_lt ts d s
    show s ∈ (if (ts.getD d (none, 0, 0)).1.isSome = true then opens ts d ++ [d] else opens ts d) ↔ _
    by_cases e : (ts.getD d (none, 0, 0)).1.isSome = true
    · rw [if_pos e, List.mem_append, ih, List.mem_singleton]
      constructor
      · rintro (⟨h1, h2⟩ | rfl)
        · exact ⟨by omega, h2⟩
        · exact ⟨by omega, e⟩
      · rintro ⟨h1, h2⟩
        by_cases q : s = d
        · exact .inr q
        · exact .inl ⟨by omega, h2⟩
    · rw [if_neg e, ih]
      constructor
      · rintro ⟨h1, h2⟩
        exact ⟨by omega, h2⟩
      · rintro ⟨h1, h2⟩
        have q : s ≠ d := fun z => by rw [z] at h2; exact e h2
        exact ⟨by omega, h2⟩
theorem opens_len (ts : List Tm) : ∀ d, (opens ts d).length ≤ d
  | 0 => Nat.le_refl _
  | d + 1 => by
    have ih := opens_len ts d
    show (if (ts.getD d (none, 0, 0)).1.isSome = true then opens ts d ++ [d] else opens ts d).length ≤ d + 1
    split
    · rw [List.length_append]
      simp
      omega
    · omega
theorem opens_nodup (ts : List Tm) : ∀ d, (opens ts d).Nodup
  | 0 => List.nodup_nil
  | d + 1 => by
    have ih := opens_nodup ts d
    show (if (ts.getD d (none, 0, 0)).1.isSome = true then opens ts d ++ [d] else opens ts d).Nodup
    split
    · rw [List.nodup_append]
      refine ⟨ih, by simp, ?_⟩
      intro a ha b hb
      have h1 := ((opens_lt ts d a).mp ha).1
      have h2 := List.mem_singleton.mp hb
      omega
    · exact ih
/-- the setup of a day -/
def setupOf (ts : List Tm) (s : Nat) : Int := (ts.getD s (none, 0, 0)).1.getD 0
/-- what is left of a day's setup ahead of day k -/
def slackAt (ws : List Int) (ts : List Tm) (vs : List Int) (k s : Nat) : Int := setupOf ts s - ld ws ts vs s k
/-- the values of the first n days, and their makers -/
structure Valued (ws : List Int) (ts : List Tm) (n : Nat) (vs : List Int) (ms : List (Option Int)) : Prop where
  lv : vs.length = n
  lm : ms.length = n
  zero : ∀ d, d < n → ws.getD d 0 = 0 → vs.getD d 0 = 0 ∧ ms[d]? = some none
  least : ∀ d s, d < n → ws.getD d 0 ≠ 0 → s ∈ opens ts (d + 1) → vs.getD d 0 ≤ srv ws ts s d + slackAt ws ts vs d s
  maker : ∀ d, d < n → ws.getD d 0 ≠ 0 → ∃ m : Nat, ms[d]? = some (some (m : Int)) ∧ m ∈ opens ts (d + 1) ∧ vs.getD d 0 = srv ws ts m d + slackAt ws ts vs d m
theorem getD_app {α : Type} {l : List α} {x y : α} {i : Nat} (h : i < l.length) : (l ++ [x]).getD i y = l.getD i y := by
  rw [List.getD_eq_getElem?_getD, List.getD_eq_getElem?_getD, List.getElem?_append_left h]
theorem getD_last {α : Type} {l : List α} {x y : α} : (l ++ [x]).getD l.length y = x := by
  rw [List.getD_eq_getElem?_getD, List.getElem?_append_right (Nat.le_refl _)]
  simp
theorem ld_app (ws : List Int) (ts : List Tm) {vs : List Int} {v : Int} (s : Nat) : ∀ k, k ≤ vs.length → ld ws ts (vs ++ [v]) s k = ld ws ts vs s k
  | 0, _ => rfl
  | k + 1, h => by
    show ld ws ts (vs ++ [v]) s k + (if s ≤ k then max 0 ((vs ++ [v]).getD k 0 - srv ws ts s k) else 0) = ld ws ts vs s k + (if s ≤ k then max 0 (vs.getD k 0 - srv ws ts s k) else 0)
    rw [ld_app ws ts s k (by omega), getD_app (by omega)]
theorem slack_app {ws : List Int} {ts : List Tm} {vs : List Int} {v : Int} {k s : Nat} (h : k ≤ vs.length) : slackAt ws ts (vs ++ [v]) k s = slackAt ws ts vs k s := by
  unfold slackAt
  rw [ld_app ws ts s k h]
theorem slack_next {ws : List Int} {ts : List Tm} {vs : List Int} {k s : Nat} (h : s ≤ k) : slackAt ws ts vs (k + 1) s = slackAt ws ts vs k s - max 0 (vs.getD k 0 - srv ws ts s k) := by
  unfold slackAt
  show _ - (ld ws ts vs s k + (if s ≤ k then _ else _)) = _
  rw [if_pos h]
  omega
theorem Valued.nil (ws : List Int) (ts : List Tm) : Valued ws ts 0 [] [] := ⟨rfl, rfl, fun d h => absurd h (Nat.not_lt_zero _), fun d _ h => absurd h (Nat.not_lt_zero _), fun d h => absurd h (Nat.not_lt_zero _)⟩
theorem Valued.snoc {ws : List Int} {ts : List Tm} {n : Nat} {vs : List Int} {ms : List (Option Int)} {v : Int} {m : Option Int} (h : Valued ws ts n vs ms)
    (hz : ws.getD n 0 = 0 → v = 0 ∧ m = none) (hl : ws.getD n 0 ≠ 0 → ∀ s, s ∈ opens ts (n + 1) → v ≤ srv ws ts s n + slackAt ws ts vs n s)
    (hm : ws.getD n 0 ≠ 0 → ∃ k : Nat, m = some (k : Int) ∧ k ∈ opens ts (n + 1) ∧ v = srv ws ts k n + slackAt ws ts vs n k) : Valued ws ts (n + 1) (vs ++ [v]) (ms ++ [m]) := by
  have lv := h.lv
  have lm := h.lm
  have last : (vs ++ [v]).getD n 0 = v := by
    rw [← lv]
    exact getD_last
  have lastm : (ms ++ [m])[n]? = some m := by
    rw [← lm, List.getElem?_append_right (Nat.le_refl _)]
    simp
  refine ⟨by rw [List.length_append, lv]; rfl, by rw [List.length_append, lm]; rfl, fun d hd hw => ?_, fun d s hd hw hs => ?_, fun d hd hw => ?_⟩
  · by_cases e : d = n
    · subst e
      obtain ⟨h1, h2⟩ := hz hw
      rw [last, lastm, h1, h2]
      exact ⟨rfl, rfl⟩
    · rw [getD_app (by omega), List.getElem?_append_left (by omega)]
      exact h.zero d (by omega) hw
  · by_cases e : d = n
    · subst e
      rw [last, slack_app (by omega)]
      exact hl hw s hs
    · rw [getD_app (by omega), slack_app (by omega)]
      exact h.least d s (by omega) hw hs
  · by_cases e : d = n
    · subst e
      obtain ⟨k, h1, h2, h3⟩ := hm hw
      exact ⟨k, by rw [lastm, h1], h2, by rw [last, slack_app (by omega)]; exact h3⟩
    · obtain ⟨k, h1, h2, h3⟩ := h.maker d (by omega) hw
      exact ⟨k, by rw [List.getElem?_append_left (by omega)]; exact h1, h2, by rw [getD_app (by omega), slack_app (by omega)]; exact h3⟩
theorem noD_tms (n : Nat) (ts : List Tm) : (ts.map tmD).all (D.noD (n + 2)) = true := noD_map (fun t => by obtain ⟨s, p, k⟩ := t; cases s <;> rfl) ts
theorem noD_ois (n : Nat) (ms : List (Option Int)) : (ms.map oi).all (D.noD (n + 1)) = true := noD_map (fun t => by cases t <;> rfl) ms
theorem noD_pairs (n : Nat) (ps : List (Int × Int)) : (ps.map pairD).all (D.noD (n + 2)) = true := noD_map (fun t => rfl) ps
/-- the orders, walked from the last day back: with k days left -/
def ordersGo (ws : List Int) (ms : List (Option Int)) : Nat → Nat → List Int → List Int
  | 0, _, os => os
  | f + 1, 0, os => os
  | f + 1, k + 1, os => match ms.getD k none with
    | none => ordersGo ws ms f k os
    | some m => ordersGo ws ms f m.toNat (os.set m.toNat ((ws.take (k + 1)).drop m.toNat).sum)
def ordersOf (ws : List Int) (ms : List (Option Int)) : List Int := ordersGo ws ms ws.length ws.length (List.replicate ws.length 0)
end N

--@uses valued
namespace N
open PySem L2 VL
/-- what is left ahead of day d -/
def leftTo (ws os : List Int) (d : Nat) : Int := (os.take d).sum - (ws.take d).sum
abbrev tmAt (ts : List Tm) (d : Nat) : Tm := ts.getD d (none, 0, 0)
/-- what the orders of the first days cost -/
def costTo (ws : List Int) (ts : List Tm) (os : List Int) : Nat → Int
  | 0 => 0
  | d + 1 => costTo ws ts os d + costAdd (tmAt ts d) (os.getD d 0) + (tmAt ts d).2.2 * leftTo ws os (d + 1)
def Feas (ws : List Int) (ts : List Tm) (os : List Int) (n : Nat) : Prop := ∀ d, d < n → costBad (leftTo ws os d) (ws.getD d 0) (tmAt ts d) (os.getD d 0) = false
theorem take_sumD {l : List Int} {i : Nat} (h : i < l.length) : (l.take (i + 1)).sum = (l.take i).sum + l.getD i 0 := by
  have e : l[i]? = some l[i] := List.getElem?_eq_getElem h
  rw [take_one e, List.sum_append, getD_of e]
  simp
theorem left_next {ws os : List Int} {d : Nat} (h1 : d < ws.length) (h2 : d < os.length) : leftTo ws os (d + 1) = leftTo ws os d + (os.getD d 0 - ws.getD d 0) := by
  unfold leftTo
  rw [take_sumD h1, take_sumD h2]
  omega
theorem cost_from {ws : List Int} {ts : List Tm} {os : List Int} (h1 : ts.length = ws.length) (h2 : os.length = ws.length) : ∀ (m d : Nat), d + m = ws.length →
    (Feas ws ts os ws.length → costGo (leftTo ws os d) (costTo ws ts os d) ((ws.zip (ts.zip os)).drop d) = some (costTo ws ts os ws.length)) ∧
    (∀ c, costGo (leftTo ws os d) (costTo ws ts os d) ((ws.zip (ts.zip os)).drop d) = some c → (∀ e, d ≤ e → e < ws.length → costBad (leftTo ws os e) (ws.getD e 0) (tmAt ts e) (os.getD e 0) = false) ∧ c = costTo ws ts os ws.length)
  | 0, d, h => by
    have e : (ws.zip (ts.zip os)).drop d = [] := by
      rw [List.drop_of_length_le]
      rw [List.length_zip, List.length_zip]
      omega
    have ed : d = ws.length := by omega
    rw [e, ed]
    refine ⟨fun _ => rfl, fun c hc => ⟨fun e h1 h2 => by omega, ?_⟩⟩
    have hc' : some (costTo ws ts os ws.length) = some c := hc
    exact (Option.some.inj hc').symm
  | m + 1, d, h => by
    have hd : d < ws.length := by omega
    have g1 : ws[d]? = some (ws.getD d 0) := by rw [List.getD_eq_getElem?_getD, List.getElem?_eq_getElem hd]; rfl
    have g2 : ts[d]? = some (tmAt ts d) := by unfold tmAt; rw [List.getD_eq_getElem?_getD, List.getElem?_eq_getElem (by omega)]; rfl
    have g3 : os[d]? = some (os.getD d 0) := by rw [List.getD_eq_getElem?_getD, List.getElem?_eq_getElem (by omega)]; rfl
    have ih := cost_from h1 h2 m (d + 1) (by omega)
    rw [drop_one (zip3_get g1 g2 g3)]
    have en : leftTo ws os d + (os.getD d 0 - ws.getD d 0) = leftTo ws os (d + 1) := (left_next hd (by omega)).symm
    have ec : costTo ws ts os d + costAdd (tmAt ts d) (os.getD d 0) + (tmAt ts d).2.2 * leftTo ws os (d + 1) = costTo ws ts os (d + 1) := rfl
    by_cases hb : costBad (leftTo ws os d) (ws.getD d 0) (tmAt ts d) (os.getD d 0) = true
    · refine ⟨fun hf => ?_, fun c hc => ?_⟩
      · rw [hf d hd] at hb
        cases hb
      · rw [costGo_bad hb] at hc
        cases hc
    · have hb' : costBad (leftTo ws os d) (ws.getD d 0) (tmAt ts d) (os.getD d 0) = false := by simpa using hb
      rw [costGo_good hb', en, ec]
      refine ⟨ih.1, fun c hc => ?_⟩
      obtain ⟨a, b⟩ := ih.2 c hc
      refine ⟨fun e he1 he2 => ?_, b⟩
      by_cases q : e = d
      · rw [q]
        exact hb'
      · exact a e (by omega) he2
theorem cost_some {ws : List Int} {ts : List Tm} {os : List Int} (h1 : ts.length = ws.length) (h2 : os.length = ws.length) (hf : Feas ws ts os ws.length) : costOf ws ts os = some (costTo ws ts os ws.length) :=
  (cost_from h1 h2 ws.length 0 (Nat.zero_add _)).1 hf
theorem cost_feas {ws : List Int} {ts : List Tm} {os : List Int} (h1 : ts.length = ws.length) (h2 : os.length = ws.length) {c : Int} (h : costOf ws ts os = some c) : Feas ws ts os ws.length ∧ c = costTo ws ts os ws.length := by
  obtain ⟨a, b⟩ := (cost_from h1 h2 ws.length 0 (Nat.zero_add _)).2 c h
  exact ⟨fun d hd => a d (Nat.zero_le _) hd, b⟩
theorem feas_at {ws : List Int} {ts : List Tm} {os : List Int} {n d : Nat} (h : Feas ws ts os n) (hd : d < n) : 0 ≤ os.getD d 0 ∧ 0 ≤ leftTo ws os d + (os.getD d 0 - ws.getD d 0) ∧ (0 < os.getD d 0 → (tmAt ts d).1.isSome = true) := by
  have hb := h d hd
  unfold costBad at hb
  rw [Bool.or_eq_false_iff, Bool.or_eq_false_iff, Bool.and_eq_false_iff] at hb
  obtain ⟨b1, b2, b3⟩ := hb
  have b1' := of_decide_eq_false b1
  have b2' := of_decide_eq_false b2
  refine ⟨by omega, by omega, fun hp => ?_⟩
  rcases b3 with b3 | b3
  · exact absurd hp (of_decide_eq_false b3)
  · cases e : (tmAt ts d).1 with
    | none => rw [e] at b3; cases b3
    | some x => rfl
/-! ### no orders cost less than right values -/
def used (os : List Int) : Nat → List Nat
  | 0 => []
  | d + 1 => if 0 < os.getD d 0 then used os d ++ [d] else used os d
theorem used_lt (os : List Int) : ∀ (d s : Nat), s ∈ used os d → s < d ∧ 0 < os.getD s 0
  | 0, s, h => by cases h
  | d + 1, s, h => by
    have h' : s ∈ (if 0 < os.getD d 0 then used os d ++ [d] else used os d) := h
    split at h'
    · rename_i hp
      rcases List.mem_append.mp h' with q | q
      · have := used_lt os d s q
        exact ⟨by omega, this.2⟩
      · cases List.mem_singleton.mp q
        exact ⟨Nat.lt_succ_self _, hp⟩
    · have := used_lt os d s h'
      exact ⟨by omega, this.2⟩
def gain (ws : List Int) (ts : List Tm) (vs : List Int) (d s : Nat) : Int := max 0 (vs.getD d 0 - srv ws ts s d)
theorem sum_ge {l : List Nat} {f : Nat → Int} (h : ∀ s, 0 ≤ f s) {s : Nat} : s ∈ l → f s ≤ (l.map f).sum := by
  induction l with
  | nil => intro q; cases q
  | cons a r ih =>
    intro q
    have h2 : 0 ≤ (r.map f).sum := by
      clear ih q
      induction r with
      | nil => simp
      | cons b r ih =>
        rw [List.map_cons, List.sum_cons]
        have := h b
        omega
    rw [List.map_cons, List.sum_cons]
    rcases List.mem_cons.mp q with rfl | q
    · omega
    · have := ih q
      have := h a
      omega
theorem sum_nn {l : List Nat} {f : Nat → Int} (h : ∀ s ∈ l, 0 ≤ f s) : 0 ≤ (l.map f).sum := by
  induction l with
  | nil => simp
  | cons b r ih =>
    rw [List.map_cons, List.sum_cons]
    have := h b List.mem_cons_self
    have := ih fun s hs => h s (List.mem_cons_of_mem _ hs)
    omega
theorem sum_sub {l : List Nat} {f g k : Nat → Int} (h : ∀ s ∈ l, f s = g s - k s) : (l.map f).sum = (l.map g).sum - (l.map k).sum := by
  induction l with
  | nil => simp
  | cons b r ih =>
    rw [List.map_cons, List.map_cons, List.map_cons, List.sum_cons, List.sum_cons, List.sum_cons, ih fun s hs => h s (List.mem_cons_of_mem _ hs), h b List.mem_cons_self]
    omega
theorem slack_step {ws : List Int} {ts : List Tm} {vs : List Int} {d s : Nat} (h : s ≤ d) : slackAt ws ts vs (d + 1) s = slackAt ws ts vs d s - gain ws ts vs d s := slack_next h
/-- what a unit bought on day s costs, told as on day 0 -/
def unit0 (ts : List Tm) (s : Nat) : Int := (tmAt ts s).2.1 - keepSum ts s
theorem srv_unit (ws : List Int) (ts : List Tm) (s d : Nat) : srv ws ts s d = ws.getD d 0 * (unit0 ts s + keepSum ts d) := by
  unfold srv unit0 tmAt
  congr 1
  omega
theorem keepSum_next {ts : List Tm} {d : Nat} (h : d < ts.length) : keepSum ts (d + 1) = keepSum ts d + (tmAt ts d).2.2 := by
  have e : ts[d]? = some ts[d] := List.getElem?_eq_getElem h
  unfold keepSum tmAt
  rw [take_one e, List.map_append, List.sum_append, getD_of e]
  simp
theorem dual_step {ws : List Int} {ts : List Tm} {os vs : List Int} (h1 : ts.length = ws.length) (h2 : os.length = ws.length) (h3 : vs.length = ws.length) (tok : ∀ t ∈ ts, TermOk t) (hw : ∀ w ∈ ws, 0 ≤ w)
    (hf : Feas ws ts os ws.length) (hA : RightA ws vs ws.length) : ∀ d, d ≤ ws.length → 0 ≤ leftTo ws os d ∧
    ((used os d = [] ∧ leftTo ws os d = 0 ∧ (vs.take d).sum ≤ costTo ws ts os d) ∨
      ∃ s ∈ used os d, (vs.take d).sum + ((used os d).map (slackAt ws ts vs d)).sum + leftTo ws os d * (unit0 ts s + keepSum ts d) ≤ costTo ws ts os d)
  | 0, _ => ⟨by simp [leftTo], .inl ⟨rfl, by simp [leftTo], by simp [costTo]⟩⟩
  | d + 1, hd => by
    obtain ⟨l0, ih⟩ := dual_step h1 h2 h3 tok hw hf hA d (by omega)
    have hdl : d < ws.length := by omega
    obtain ⟨f1, f2, f3⟩ := feas_at hf hdl
    have en := left_next (ws := ws) (os := os) hdl (by omega)
    have g1 : ws[d]? = some (ws.getD d 0) := by rw [List.getD_eq_getElem?_getD, List.getElem?_eq_getElem hdl]; rfl
    have g3 : vs[d]? = some (vs.getD d 0) := by rw [List.getD_eq_getElem?_getD, List.getElem?_eq_getElem (by omega)]; rfl
    have g2 : ts[d]? = some (tmAt ts d) := by unfold tmAt; rw [List.getD_eq_getElem?_getD, List.getElem?_eq_getElem (by omega)]; rfl
    have w0 := hw _ (List.mem_of_getElem? g1)
    obtain ⟨v0, v1⟩ := hA d _ _ hdl g1 g3
    have hV := take_sumD (l := vs) (i := d) (by omega)
    have hK := keepSum_next (ts := ts) (d := d) (by omega)
    have tk := tok _ (List.mem_of_getElem? g2)
    have hc : costTo ws ts os (d + 1) = costTo ws ts os d + costAdd (tmAt ts d) (os.getD d 0) + (tmAt ts d).2.2 * leftTo ws os (d + 1) := rfl
    refine ⟨by rw [en]; exact f2, ?_⟩
    have gnn : ∀ s, 0 ≤ gain ws ts vs d s := fun s => by unfold gain; omega
    have gge : ∀ s, vs.getD d 0 - ws.getD d 0 * (unit0 ts s + keepSum ts d) ≤ gain ws ts vs d s := fun s => by
      unfold gain
      rw [srv_unit]
      omega
    by_cases ho : 0 < os.getD d 0
    · have hu : used os (d + 1) = used os d ++ [d] := by
        show (if 0 < os.getD d 0 then _ else _) = _
        rw [if_pos ho]
      have hadd : costAdd (tmAt ts d) (os.getD d 0) = setupOf ts d + (tmAt ts d).2.1 * os.getD d 0 := by
        unfold costAdd setupOf
        rw [if_pos ho]
      have hsd : slackAt ws ts vs d d = setupOf ts d := by
        unfold slackAt
        rw [ld_low _ _ _ _ _ (Nat.le_refl _)]
        omega
      have hud : unit0 ts d + keepSum ts d = (tmAt ts d).2.1 := by
        unfold unit0
        omega
      have hsum : ((used os (d + 1)).map (slackAt ws ts vs (d + 1))).sum = ((used os d).map (slackAt ws ts vs d)).sum + setupOf ts d - ((used os (d + 1)).map (gain ws ts vs d)).sum := by
        rw [hu, sum_sub (g := slackAt ws ts vs d) (k := gain ws ts vs d) fun s hs => slack_step (by
          rcases List.mem_append.mp hs with q | q
          · exact Nat.le_of_lt (used_lt os d s q).1
          · cases List.mem_singleton.mp q
            exact Nat.le_refl _)]
        rw [List.map_append, List.sum_append]
        simp [hsd]
      -- the cheaper of the two
      have key : ∀ s, s ∈ used os (d + 1) → unit0 ts s ≤ unit0 ts d → (leftTo ws os d * (unit0 ts s + keepSum ts d) + (vs.take d).sum + ((used os d).map (slackAt ws ts vs d)).sum ≤ costTo ws ts os d) →
          (vs.take (d + 1)).sum + ((used os (d + 1)).map (slackAt ws ts vs (d + 1))).sum + leftTo ws os (d + 1) * (unit0 ts s + keepSum ts (d + 1)) ≤ costTo ws ts os (d + 1) := fun s hs hle hI => by
        have hg := sum_ge (l := used os (d + 1)) gnn hs
        have hg2 := gge s
        rw [hsum, hV, hK, hc, hadd]
        have e1 : leftTo ws os (d + 1) * (unit0 ts s + (keepSum ts d + (tmAt ts d).2.2)) = leftTo ws os (d + 1) * (unit0 ts s + keepSum ts d) + (tmAt ts d).2.2 * leftTo ws os (d + 1) := by
          rw [← Int.add_assoc, Int.mul_add, Int.mul_comm (leftTo ws os (d + 1)) (tmAt ts d).2.2]
        rw [e1]
        have e2 : leftTo ws os (d + 1) * (unit0 ts s + keepSum ts d) = leftTo ws os d * (unit0 ts s + keepSum ts d) + os.getD d 0 * (unit0 ts s + keepSum ts d) - ws.getD d 0 * (unit0 ts s + keepSum ts d) := by
          rw [en, Int.add_mul, Int.sub_mul]
          omega
        rw [e2]
        have e3 : os.getD d 0 * (unit0 ts s + keepSum ts d) ≤ (tmAt ts d).2.1 * os.getD d 0 := by
          rw [← hud, Int.mul_comm]
          exact Int.mul_le_mul_of_nonneg_right (by omega) (by omega)
        omega
      right
      rcases ih with ⟨u0, q0, q1⟩ | ⟨s, hs, q1⟩
      · refine ⟨d, by rw [hu]; simp, key d (by rw [hu]; simp) (Int.le_refl _) ?_⟩
        rw [q0, u0]
        simp
        exact q1
      · by_cases hle : unit0 ts s ≤ unit0 ts d
        · exact ⟨s, by rw [hu]; exact List.mem_append_left _ hs, key s (by rw [hu]; exact List.mem_append_left _ hs) hle (by omega)⟩
        · refine ⟨d, by rw [hu]; simp, key d (by rw [hu]; simp) (Int.le_refl _) ?_⟩
          have : leftTo ws os d * (unit0 ts d + keepSum ts d) ≤ leftTo ws os d * (unit0 ts s + keepSum ts d) := Int.mul_le_mul_of_nonneg_left (by omega) l0
          omega
    · have hu : used os (d + 1) = used os d := by
        show (if 0 < os.getD d 0 then _ else _) = _
        rw [if_neg ho]
      have hadd : costAdd (tmAt ts d) (os.getD d 0) = 0 := by
        unfold costAdd
        rw [if_neg ho]
      rcases ih with ⟨u0, q0, q1⟩ | ⟨s, hs, q1⟩
      · left
        have wz : ws.getD d 0 = 0 := by omega
        have vz := v1 wz
        have lz : leftTo ws os (d + 1) = 0 := by omega
        refine ⟨by rw [hu]; exact u0, lz, ?_⟩
        rw [hV, hc, hadd, lz, Int.mul_zero, Int.add_zero, Int.add_zero]
        omega
      · right
        refine ⟨s, by rw [hu]; exact hs, ?_⟩
        have hsum : ((used os d).map (slackAt ws ts vs (d + 1))).sum = ((used os d).map (slackAt ws ts vs d)).sum - ((used os d).map (gain ws ts vs d)).sum :=
          sum_sub fun s hs => slack_step (Nat.le_of_lt (used_lt os d s hs).1)
        have hg := sum_ge (l := used os d) gnn hs
        have hg2 := gge s
        rw [hu, hsum, hV, hK, hc, hadd]
        have e1 : leftTo ws os (d + 1) * (unit0 ts s + (keepSum ts d + (tmAt ts d).2.2)) = leftTo ws os (d + 1) * (unit0 ts s + keepSum ts d) + (tmAt ts d).2.2 * leftTo ws os (d + 1) := by
          rw [← Int.add_assoc, Int.mul_add, Int.mul_comm (leftTo ws os (d + 1)) (tmAt ts d).2.2]
        rw [e1]
        have oz : os.getD d 0 = 0 := by omega
        have e2 : leftTo ws os (d + 1) * (unit0 ts s + keepSum ts d) = leftTo ws os d * (unit0 ts s + keepSum ts d) - ws.getD d 0 * (unit0 ts s + keepSum ts d) := by
          rw [en, oz, Int.add_mul, Int.sub_mul]
          omega
        rw [e2]
        omega
/-- right values come to no more than any orders cost -/
theorem weak_dual {ws : List Int} {ts : List Tm} {os vs : List Int} (h1 : ts.length = ws.length) (h2 : os.length = ws.length) (h3 : vs.length = ws.length) (tok : ∀ t ∈ ts, TermOk t) (hw : ∀ w ∈ ws, 0 ≤ w)
    {c : Int} (hc : costOf ws ts os = some c) (hr : RightV ws ts vs) : vs.sum ≤ c := by
  obtain ⟨hf, rfl⟩ := cost_feas h1 h2 hc
  obtain ⟨l0, h⟩ := dual_step h1 h2 h3 tok hw hf hr.1 ws.length (Nat.le_refl _)
  have ev : vs.take ws.length = vs := by rw [← h3, List.take_length]
  rw [ev] at h
  rcases h with ⟨_, _, h⟩ | ⟨s, hs, h⟩
  · exact h
  · have hsl : 0 ≤ ((used os ws.length).map (slackAt ws ts vs ws.length)).sum := sum_nn fun t ht => by
      obtain ⟨t1, t2⟩ := used_lt os _ t ht
      have := (feas_at hf t1).2.2 t2
      obtain ⟨q, hq⟩ := Option.isSome_iff_exists.mp this
      have g : ts[t]? = some (tmAt ts t) := by unfold tmAt; rw [List.getD_eq_getElem?_getD, List.getElem?_eq_getElem (by omega)]; rfl
      have := hr.2 t _ q t1 g hq
      unfold slackAt setupOf
      have e : (ts.getD t (none, 0, 0)).1 = some q := hq
      rw [e]
      simp
      exact this
    have hl : 0 ≤ leftTo ws os ws.length * (unit0 ts s + keepSum ts ws.length) := by
      refine Int.mul_nonneg l0 ?_
      have s1 := (used_lt os _ s hs).1
      have g : ts[s]? = some (tmAt ts s) := by unfold tmAt; rw [List.getD_eq_getElem?_getD, List.getElem?_eq_getElem (by omega)]; rfl
      have hp := (tok _ (List.mem_of_getElem? g)).p0
      have hk := keepSum_mono tok (i := s) (j := ws.length) (by omega)
      unfold unit0
      omega
    omega
end N

--@uses ww
namespace N
open PySem L2 VL
theorem opens_at {ts : List Tm} {k s : Nat} (h : s ∈ opens ts k) (hl : k ≤ ts.length) : s < k ∧ ∃ q, (tmAt ts s).1 = some q ∧ setupOf ts s = q ∧ ts[s]? = some (tmAt ts s) := by
  obtain ⟨h1, h2⟩ := (opens_lt ts k s).mp h
  obtain ⟨q, hq⟩ := Option.isSome_iff_exists.mp h2
  refine ⟨h1, q, hq, ?_, ?_⟩
  · unfold setupOf
    rw [hq]
    rfl
  · unfold tmAt
    rw [List.getD_eq_getElem?_getD, List.getElem?_eq_getElem (by omega)]
    rfl
theorem opens_mono {ts : List Tm} {j k s : Nat} (h : s ∈ opens ts j) (hjk : j ≤ k) : s ∈ opens ts k := by
  obtain ⟨h1, h2⟩ := (opens_lt ts j s).mp h
  exact (opens_lt ts k s).mpr ⟨by omega, h2⟩
section
variable {ws : List Int} {ts : List Tm} {vs : List Int} {ms : List (Option Int)}
theorem srv_nn (tok : ∀ t ∈ ts, TermOk t) (hw : ∀ w ∈ ws, 0 ≤ w) {s d : Nat} (h : s ≤ d) (hs : s < ts.length) : 0 ≤ srv ws ts s d := by
  unfold srv
  have g : ts[s]? = some (tmAt ts s) := by unfold tmAt; rw [List.getD_eq_getElem?_getD, List.getElem?_eq_getElem hs]; rfl
  have hp := (tok _ (List.mem_of_getElem? g)).p0
  have hk := keepSum_mono tok h
  have hwd : 0 ≤ ws.getD d 0 := by
    rw [List.getD_eq_getElem?_getD]
    cases e : ws[d]? with
    | none => exact Int.le_refl _
    | some w => exact hw w (List.mem_of_getElem? e)
  refine Int.mul_nonneg hwd ?_
  show 0 ≤ (tmAt ts s).2.1 + keepSum ts d - keepSum ts s
  omega
theorem slack_nn (hv : Valued ws ts ws.length vs ms) (h1 : ts.length = ws.length) (tok : ∀ t ∈ ts, TermOk t) {s : Nat} (hs : s ∈ opens ts ws.length) : ∀ k, k ≤ ws.length → 0 ≤ slackAt ws ts vs k s
  | 0, _ => by
    obtain ⟨_, q, hq, hsu, hg⟩ := opens_at hs (by omega)
    have := (tok _ (List.mem_of_getElem? hg)).s q hq
    unfold slackAt
    show 0 ≤ setupOf ts s - 0
    omega
  | k + 1, hk => by
    have ih := slack_nn hv h1 tok hs k (by omega)
    by_cases hsk : s ≤ k
    · rw [slack_next hsk]
      by_cases hw : ws.getD k 0 = 0
      · have hz := (hv.zero k (by omega) hw).1
        have : srv ws ts s k = 0 := by unfold srv; rw [hw, Int.zero_mul]
        rw [hz, this]
        simpa using ih
      · have := hv.least k s (by omega) hw ((opens_lt ts (k + 1) s).mpr ⟨by omega, ((opens_lt ts _ s).mp hs).2⟩)
        omega
    · have : slackAt ws ts vs (k + 1) s = slackAt ws ts vs k s := by
        unfold slackAt
        rw [ld_low _ _ _ _ _ (show k + 1 ≤ s by omega), ld_low _ _ _ _ _ (show k ≤ s by omega)]
      rw [this]
      exact ih
theorem slack_anti {k : Nat} {s : Nat} : ∀ {j}, k ≤ j → slackAt ws ts vs j s ≤ slackAt ws ts vs k s
  | 0, h => by
    have : k = 0 := by omega
    rw [this]
    exact Int.le_refl _
  | j + 1, h => by
    by_cases e : k = j + 1
    · rw [e]
      exact Int.le_refl _
    · have ih := slack_anti (k := k) (s := s) (j := j) (by omega)
      by_cases hsj : s ≤ j
      · rw [slack_next hsj]
        omega
      · have : slackAt ws ts vs (j + 1) s = slackAt ws ts vs j s := by
          unfold slackAt
          rw [ld_low _ _ _ _ _ (show j + 1 ≤ s by omega), ld_low _ _ _ _ _ (show j ≤ s by omega)]
        rw [this]
        exact ih
/-- the told values are right -/
theorem valued_right (hv : Valued ws ts ws.length vs ms) (h1 : ts.length = ws.length) (tok : ∀ t ∈ ts, TermOk t) (hw : ∀ w ∈ ws, 0 ≤ w) : RightV ws ts vs := by
  refine ⟨fun i w v hi h2 h3 => ?_, fun i t s hi h2 h3 => ?_⟩
  · have ew : ws.getD i 0 = w := getD_of h2
    have ev : vs.getD i 0 = v := getD_of h3
    by_cases hz : w = 0
    · have := (hv.zero i hi (by rw [ew]; exact hz)).1
      rw [ev] at this
      omega
    · obtain ⟨m, _, hm, e⟩ := hv.maker i hi (by rw [ew]; exact hz)
      have hml := ((opens_lt ts _ m).mp hm).1
      have := srv_nn (ws := ws) tok hw (s := m) (d := i) (by omega) (by omega)
      have := slack_nn hv h1 tok (opens_mono hm (by omega)) i (by omega)
      exact ⟨by omega, fun z => absurd z hz⟩
  · have hs : i ∈ opens ts ws.length := (opens_lt ts _ i).mpr ⟨hi, by rw [getD_of h2, h3]; rfl⟩
    have := slack_nn hv h1 tok hs ws.length (Nat.le_refl _)
    unfold slackAt setupOf at this
    rw [getD_of h2, h3] at this
    have h5 : 0 ≤ s - ld ws ts vs i ws.length := this
    omega
/-- behind its day a maker has no slack left -/
theorem maker_slack {k m : Nat} (h : m ≤ k) (e : vs.getD k 0 = srv ws ts m k + slackAt ws ts vs k m) (hn : 0 ≤ slackAt ws ts vs k m) : slackAt ws ts vs (k + 1) m = 0 := by
  rw [slack_next h, e]
  omega
/-- between a maker and its day no value is below what serving from the maker costs -/
theorem block_ge (hv : Valued ws ts ws.length vs ms) (h1 : ts.length = ws.length) (tok : ∀ t ∈ ts, TermOk t) (hw : ∀ w ∈ ws, 0 ≤ w) {k m : Nat} (hk : k < ws.length) (hwk : ws.getD k 0 ≠ 0) (hm : m ∈ opens ts (k + 1)) (em : vs.getD k 0 = srv ws ts m k + slackAt ws ts vs k m)
    {e : Nat} (he1 : m ≤ e) (he2 : e ≤ k) : srv ws ts m e ≤ vs.getD e 0 := by
  have nn : ∀ d, 0 ≤ ws.getD d 0 := fun d => by
    rw [List.getD_eq_getElem?_getD]
    cases e : ws[d]? with
    | none => exact Int.le_refl _
    | some w => exact hw w (List.mem_of_getElem? e)
  have sm := slack_nn hv h1 tok (opens_mono hm (by omega)) k (by omega)
  by_cases hz : ws.getD e 0 = 0
  · have := (hv.zero e (by omega) hz).1
    have e2 : srv ws ts m e = 0 := by unfold srv; rw [hz, Int.zero_mul]
    omega
  · by_cases ek : e = k
    · rw [ek]
      omega
    · apply Int.not_lt.mp
      intro hlt
      obtain ⟨m', _, hm', e'⟩ := hv.maker e (by omega) hz
      have hm'l := ((opens_lt ts _ m').mp hm').1
      have s1 := slack_nn hv h1 tok (opens_mono hm' (by omega)) e (by omega)
      have z1 := maker_slack (k := e) (m := m') (by omega) e' s1
      have z2 : slackAt ws ts vs k m' = 0 := by
        have a := slack_anti (ws := ws) (ts := ts) (vs := vs) (k := e + 1) (s := m') (j := k) (by omega)
        have b := slack_nn hv h1 tok (opens_mono hm' (by omega)) k (by omega)
        omega
      have hle := hv.least k m' hk hwk (opens_mono hm' (by omega))
      -- cheaper at e, so cheaper at k
      have c1 : srv ws ts m' e < srv ws ts m e := by omega
      rw [srv_unit, srv_unit] at c1
      have hwe := nn e
      have c2 : unit0 ts m' < unit0 ts m := by
        apply Int.not_le.mp
        intro hc
        have : ws.getD e 0 * (unit0 ts m + keepSum ts e) ≤ ws.getD e 0 * (unit0 ts m' + keepSum ts e) := Int.mul_le_mul_of_nonneg_left (by omega) hwe
        omega
      have hwk2 := nn k
      have c3 : srv ws ts m' k < srv ws ts m k := by
        rw [srv_unit, srv_unit]
        exact Int.mul_lt_mul_of_pos_left (by omega) (by omega)
      omega
def srvTo (ws : List Int) (ts : List Tm) (m : Nat) : Nat → Int
  | 0 => 0
  | d + 1 => srvTo ws ts m d + if m ≤ d then srv ws ts m d else 0
theorem srvTo_low (m : Nat) : ∀ k, k ≤ m → srvTo ws ts m k = 0
  | 0, _ => rfl
  | k + 1, h => by
    show srvTo ws ts m k + (if m ≤ k then _ else 0) = 0
    rw [if_neg (by omega), srvTo_low m k (by omega)]
    rfl
theorem block_sum {m k : Nat} (hl : k < vs.length) (h : ∀ e, m ≤ e → e ≤ k → srv ws ts m e ≤ vs.getD e 0) : ∀ d, m ≤ d → d ≤ k + 1 → (vs.take d).sum = (vs.take m).sum + ld ws ts vs m d + srvTo ws ts m d
  | 0, hd, _ => by
    have : m = 0 := by omega
    rw [this]
    simp [ld, srvTo]
  | d + 1, hd, hk => by
    by_cases e : m = d + 1
    · rw [e, ld_low _ _ _ _ _ (Nat.le_refl _), srvTo_low _ _ (Nat.le_refl _)]
      simp
    · have ih := block_sum hl h d (by omega) (by omega)
      rw [take_sumD (by omega), ih]
      show _ = _ + (ld ws ts vs m d + (if m ≤ d then _ else 0)) + (srvTo ws ts m d + (if m ≤ d then _ else 0))
      rw [if_pos (by omega), if_pos (by omega)]
      have := h d (by omega) (by omega)
      omega
/-- the orders from the first k days' makers: what they bring and cost -/
structure Bring (ws : List Int) (ts : List Tm) (vs os : List Int) (k : Nat) : Prop where
  left : leftTo ws os k = 0
  feas : Feas ws ts os k
  cost : costTo ws ts os k = (vs.take k).sum
theorem getD_set {l : List Int} {i j : Nat} {x : Int} : (l.set i x).getD j 0 = if i = j ∧ i < l.length then x else l.getD j 0 := by
  rw [List.getD_eq_getElem?_getD, List.getElem?_set]
  by_cases h : i = j
  · by_cases h2 : i < l.length
    · rw [if_pos h, if_pos h2, if_pos ⟨h, h2⟩]
      rfl
    · rw [if_pos h, if_neg h2, if_neg (fun z => h2 z.2), List.getD_eq_getElem?_getD, List.getElem?_eq_none (by omega)]
  · rw [if_neg h, if_neg (fun z => h z.1), List.getD_eq_getElem?_getD]
theorem orders_len : ∀ (f k : Nat) (os : List Int), (ordersGo ws ms f k os).length = os.length
  | 0, _, _ => rfl
  | _ + 1, 0, _ => rfl
  | f + 1, k + 1, os => by
    show (match ms.getD k none with | none => ordersGo ws ms f k os | some m => ordersGo ws ms f m.toNat (os.set m.toNat ((ws.take (k + 1)).drop m.toNat).sum)).length = _
    split
    · exact orders_len f k os
    · rw [orders_len f _ _, List.length_set]
theorem drop_sum {l : List Int} {m k : Nat} (h : m ≤ k) : ((l.take k).drop m).sum = (l.take k).sum - (l.take m).sum := by
  have e := List.take_append_drop m (l.take k)
  rw [List.take_take, Nat.min_eq_left h] at e
  have : (l.take k).sum = (l.take m).sum + ((l.take k).drop m).sum := by
    rw [← List.sum_append, e]
  omega
theorem costBad_ok {l w a : Int} {t : Tm} (h1 : 0 ≤ a) (h2 : 0 ≤ l + (a - w)) (h3 : 0 < a → t.1.isSome = true) : costBad l w t a = false := by
  unfold costBad
  rw [decide_eq_false (by omega), decide_eq_false (by omega)]
  by_cases hp : 0 < a
  · have := h3 hp
    cases e : t.1 with
    | none => rw [e] at this; cases this
    | some x => simp
  · rw [decide_eq_false hp]
    rfl
theorem primal (hv : Valued ws ts ws.length vs ms) (h1 : ts.length = ws.length) (tok : ∀ t ∈ ts, TermOk t) (hw : ∀ w ∈ ws, 0 ≤ w) : ∀ (f k : Nat) (os : List Int), k ≤ f → k ≤ ws.length → os.length = ws.length → (∀ d, d < k → os.getD d 0 = 0) →
    (∀ d, k ≤ d → (ordersGo ws ms f k os).getD d 0 = os.getD d 0) ∧ Bring ws ts vs (ordersGo ws ms f k os) k
  | 0, k, os, hf, _, _, _ => by
    have : k = 0 := by omega
    subst this
    exact ⟨fun d _ => rfl, ⟨by simp [leftTo], fun d hd => absurd hd (Nat.not_lt_zero _), by simp [costTo]⟩⟩
  | f + 1, 0, os, _, _, _, _ => ⟨fun d _ => rfl, ⟨by simp [leftTo], fun d hd => absurd hd (Nat.not_lt_zero _), by simp [costTo]⟩⟩
  | f + 1, k + 1, os, hf, hk, hl, hz => by
    have nn : ∀ d, 0 ≤ ws.getD d 0 := fun d => by
      rw [List.getD_eq_getElem?_getD]
      cases e : ws[d]? with
      | none => exact Int.le_refl _
      | some w => exact hw w (List.mem_of_getElem? e)
    have lv := hv.lv
    have hgo : ordersGo ws ms (f + 1) (k + 1) os = match ms.getD k none with
      | none => ordersGo ws ms f k os
      | some m => ordersGo ws ms f m.toNat (os.set m.toNat ((ws.take (k + 1)).drop m.toNat).sum) := rfl
    by_cases hwk : ws.getD k 0 = 0
    · obtain ⟨hvz, hm⟩ := hv.zero k (by omega) hwk
      rw [getD_of hm] at hgo
      rw [hgo]
      obtain ⟨i1, i2⟩ := primal hv h1 tok hw f k os (by omega) (by omega) hl fun d hd => hz d (by omega)
      have ok0 : (ordersGo ws ms f k os).getD k 0 = 0 := by rw [i1 k (Nat.le_refl _)]; exact hz k (Nat.lt_succ_self _)
      have ol := orders_len (ws := ws) (ms := ms) f k os
      have l1 : leftTo ws (ordersGo ws ms f k os) (k + 1) = 0 := by
        rw [left_next (by omega) (by omega), i2.left, ok0, hwk]
        rfl
      refine ⟨fun d hd => i1 d (by omega), ⟨l1, fun d hd => ?_, ?_⟩⟩
      · by_cases e : d = k
        · subst e
          refine costBad_ok (by rw [ok0]; exact Int.le_refl _) ?_ (fun hp => by rw [ok0] at hp; exact absurd hp (by decide))
          rw [i2.left, ok0, hwk]
          decide
        · exact i2.feas d (by omega)
      · show costTo ws ts _ k + costAdd (tmAt ts k) _ + (tmAt ts k).2.2 * leftTo ws _ (k + 1) = _
        rw [l1, ok0, i2.cost, take_sumD (by omega), hvz]
        simp [costAdd]
    · obtain ⟨m, hm, hmo, em⟩ := hv.maker k (by omega) hwk
      have hmk := ((opens_lt ts (k + 1) m).mp hmo).1
      rw [getD_of hm] at hgo
      have hgo' : ordersGo ws ms (f + 1) (k + 1) os = ordersGo ws ms f m (os.set m ((ws.take (k + 1)).drop m).sum) := hgo
      rw [hgo', drop_sum (by omega)]
      generalize hS : (ws.take (k + 1)).sum - (ws.take m).sum = S
      obtain ⟨i1, i2⟩ := primal hv h1 tok hw f m (os.set m S) (by omega) (by omega) (by rw [List.length_set]; exact hl) fun d hd => by
        rw [getD_set, if_neg (by omega)]
        exact hz d (by omega)
      have ol := orders_len (ws := ws) (ms := ms) f m (os.set m S)
      rw [List.length_set] at ol
      generalize hO : ordersGo ws ms f m (os.set m S) = os' at i1 i2 ol
      have om : os'.getD m 0 = S := by rw [i1 m (Nat.le_refl _), getD_set, if_pos ⟨rfl, by omega⟩]
      have oz : ∀ d, m < d → d ≤ k → os'.getD d 0 = 0 := fun d h2 h3 => by
        rw [i1 d (by omega), getD_set, if_neg (by omega)]
        exact hz d (by omega)
      have hge := fun e he1 he2 => block_ge hv h1 tok hw (k := k) (m := m) (by omega) hwk hmo em (e := e) he1 he2
      have smk := slack_nn hv h1 tok (opens_mono hmo (by omega)) k (by omega)
      have hsl := maker_slack (k := k) (m := m) (by omega) em smk
      obtain ⟨_, q, hq, hsu, hg⟩ := opens_at hmo (by omega)
      have wmono : ∀ a b, a ≤ b → b ≤ ws.length → (ws.take a).sum ≤ (ws.take b).sum := fun a b hab => by
        induction b with
        | zero => intro _; have : a = 0 := by omega
                  rw [this]; exact Int.le_refl _
        | succ b ih =>
          intro hb
          by_cases e : a = b + 1
          · rw [e]; exact Int.le_refl _
          · have := ih (by omega) (by omega)
            rw [take_sumD (by omega)]
            have := nn b
            omega
      have hSpos : 0 < S := by
        have a1 := wmono m k (by omega) (by omega)
        have a2 := take_sumD (l := ws) (i := k) (by omega)
        have := nn k
        omega
      -- what is left within the block
      have hleft : ∀ d, m < d → d ≤ k + 1 → leftTo ws os' d = (ws.take (k + 1)).sum - (ws.take d).sum := fun d => by
        induction d with
        | zero => intro h; exact absurd h (Nat.not_lt_zero _)
        | succ d ih =>
          intro h2 h3
          rw [left_next (by omega) (by omega)]
          by_cases e : d = m
          · subst e
            rw [i2.left, om, take_sumD (l := ws) (i := d) (by omega), ← hS]
            omega
          · rw [ih (by omega) (by omega), oz d (by omega) (by omega), take_sumD (l := ws) (i := d) (by omega)]
            omega
      have hcost : ∀ d, m < d → d ≤ k + 1 → costTo ws ts os' d = (vs.take m).sum + setupOf ts m + srvTo ws ts m d + (unit0 ts m + keepSum ts d) * leftTo ws os' d := fun d => by
        induction d with
        | zero => intro h; exact absurd h (Nat.not_lt_zero _)
        | succ d ih =>
          intro h2 h3
          have hL := left_next (ws := ws) (os := os') (d := d) (by omega) (by omega)
          have hK := keepSum_next (ts := ts) (d := d) (by omega)
          show costTo ws ts os' d + costAdd (tmAt ts d) (os'.getD d 0) + (tmAt ts d).2.2 * leftTo ws os' (d + 1) = _ + (srvTo ws ts m d + (if m ≤ d then srv ws ts m d else 0)) + _
          rw [if_pos (by omega), hK, srv_unit]
          have e1 : (unit0 ts m + (keepSum ts d + (tmAt ts d).2.2)) * leftTo ws os' (d + 1) = (unit0 ts m + keepSum ts d) * leftTo ws os' (d + 1) + (tmAt ts d).2.2 * leftTo ws os' (d + 1) := by
            rw [← Int.add_assoc, Int.add_mul]
          rw [e1]
          by_cases e : d = m
          · subst e
            have hadd : costAdd (tmAt ts d) (os'.getD d 0) = setupOf ts d + (tmAt ts d).2.1 * S := by
              unfold costAdd setupOf
              rw [om, if_pos hSpos]
            have hud : unit0 ts d + keepSum ts d = (tmAt ts d).2.1 := by
              unfold unit0
              omega
            rw [hadd, i2.cost, srvTo_low _ _ (Nat.le_refl _), hud, hL, i2.left, om]
            have e2 : (tmAt ts d).2.1 * (0 + (S - ws.getD d 0)) = (tmAt ts d).2.1 * S - ws.getD d 0 * (tmAt ts d).2.1 := by
              rw [Int.zero_add, Int.mul_sub, Int.mul_comm (tmAt ts d).2.1 (ws.getD d 0)]
            rw [e2]
            omega
          · have hadd : costAdd (tmAt ts d) (os'.getD d 0) = 0 := by
              unfold costAdd
              rw [oz d (by omega) (by omega)]
              rfl
            rw [hadd, ih (by omega) (by omega)]
            have e2 : (unit0 ts m + keepSum ts d) * leftTo ws os' (d + 1) = (unit0 ts m + keepSum ts d) * leftTo ws os' d - ws.getD d 0 * (unit0 ts m + keepSum ts d) := by
              rw [hL, oz d (by omega) (by omega), Int.mul_add, Int.mul_sub, Int.mul_zero, Int.mul_comm (ws.getD d 0)]
              omega
            rw [e2]
            omega
      have hlast : leftTo ws os' (k + 1) = 0 := by
        rw [hleft (k + 1) (by omega) (Nat.le_refl _)]
        omega
      refine ⟨fun d hd => ?_, ⟨hlast, fun d hd => ?_, ?_⟩⟩
      · rw [i1 d (by omega), getD_set, if_neg (by omega)]
      · by_cases hdm : d < m
        · exact i2.feas d hdm
        · have hln : 0 ≤ leftTo ws os' (d + 1) := by
            rw [hleft (d + 1) (by omega) (by omega)]
            have := wmono (d + 1) (k + 1) (by omega) (by omega)
            omega
          rw [left_next (by omega) (by omega)] at hln
          by_cases e : d = m
          · subst e
            exact costBad_ok (by omega) hln fun _ => by rw [hq]; rfl
          · refine costBad_ok (by rw [oz d (by omega) (by omega)]; exact Int.le_refl _) hln fun hp => ?_
            rw [oz d (by omega) (by omega)] at hp
            exact absurd hp (by decide)
      · rw [hcost (k + 1) (by omega) (Nat.le_refl _), hlast, Int.mul_zero, block_sum (ws := ws) (ts := ts) (m := m) (k := k) (by omega) (fun e a b => hge e a b) (k + 1) (by omega) (Nat.le_refl _)]
        have : ld ws ts vs m (k + 1) = setupOf ts m := by
          unfold slackAt at hsl
          omega
        omega
theorem primal_cost (hv : Valued ws ts ws.length vs ms) (h1 : ts.length = ws.length) (tok : ∀ t ∈ ts, TermOk t) (hw : ∀ w ∈ ws, 0 ≤ w) : costOf ws ts (ordersOf ws ms) = some vs.sum := by
  obtain ⟨_, i2⟩ := primal hv h1 tok hw ws.length ws.length (List.replicate ws.length 0) (Nat.le_refl _) (Nat.le_refl _) (List.length_replicate ..) fun d _ => by
    rw [List.getD_eq_getElem?_getD, List.getElem?_replicate]
    split <;> rfl
  have ol := orders_len (ws := ws) (ms := ms) ws.length ws.length (List.replicate ws.length 0)
  rw [List.length_replicate] at ol
  have hc := cost_some h1 ol i2.feas
  have ev : vs.take ws.length = vs := by rw [← hv.lv, List.take_length]
  have := i2.cost
  rw [ev] at this
  rw [← this]
  exact hc
theorem orders_length (ws : List Int) (ms : List (Option Int)) : (ordersOf ws ms).length = ws.length := by
  unfold ordersOf
  rw [orders_len, List.length_replicate]
end
end N

--@uses ww2
--@import KE.BitLaws
namespace N
open PySem L2 VL
/-- the days of a number's bits -/
def subs (num : Nat) : Nat → List Nat
  | 0 => []
  | d + 1 => if num / 2 ^ d % 2 = 1 then subs num d ++ [d] else subs num d
theorem subs_lt {num : Nat} : ∀ {n s : Nat}, s ∈ subs num n → s < n
  | 0, _, h => by cases h
  | d + 1, s, h => by
    have h' : s ∈ (if num / 2 ^ d % 2 = 1 then subs num d ++ [d] else subs num d) := h
    split at h'
    · rcases List.mem_append.mp h' with q | q
      · exact Nat.lt_succ_of_lt (subs_lt q)
      · cases List.mem_singleton.mp q
        exact Nat.lt_succ_self _
    · exact Nat.lt_succ_of_lt (subs_lt h')
theorem subs_low {num d : Nat} : ∀ {n : Nat}, n ≤ d → subs (num + 2 ^ d) n = subs num n
  | 0, _ => rfl
  | n + 1, h => by
    have e : (num + 2 ^ d) / 2 ^ n % 2 = num / 2 ^ n % 2 := by
      have e1 : 2 ^ d = 2 ^ n * (2 * 2 ^ (d - n - 1)) := by
        rw [← Nat.pow_succ', ← Nat.pow_add]
        congr 1
        omega
      rw [e1, Nat.add_mul_div_left _ _ (Nat.two_pow_pos n), Nat.add_mul_mod_self_left]
    show (if _ then _ else _) = (if _ then _ else _)
    rw [e, subs_low (n := n) (by omega)]
theorem subs_of (p : Nat → Bool) : ∀ n, ∃ num, num < 2 ^ n ∧ ∀ s, s ∈ subs num n ↔ s < n ∧ p s = true
  | 0 => ⟨0, by decide, fun s => ⟨fun h => (by cases h), fun h => absurd h.1 (Nat.not_lt_zero _)⟩⟩
  | d + 1 => by
    obtain ⟨num, hlt, h⟩ := subs_of p d
    have hz : num / 2 ^ d = 0 := Nat.div_eq_of_lt hlt
    by_cases hp : p d = true
    · refine ⟨num + 2 ^ d, by rw [Nat.pow_succ]; omega, fun s => ?_⟩
      have e : (num + 2 ^ d) / 2 ^ d % 2 = 1 := by
        rw [Nat.add_div_right _ (Nat.two_pow_pos d), hz]
      show s ∈ (if (num + 2 ^ d) / 2 ^ d % 2 = 1 then subs (num + 2 ^ d) d ++ [d] else subs (num + 2 ^ d) d) ↔ _
      rw [if_pos e, subs_low (Nat.le_refl _), List.mem_append, h s, List.mem_singleton]
      constructor
      · rintro (⟨a, b⟩ | rfl)
        · exact ⟨by omega, b⟩
        · exact ⟨Nat.lt_succ_self _, hp⟩
      · rintro ⟨a, b⟩
        by_cases q : s = d
        · exact .inr q
        · exact .inl ⟨by omega, b⟩
    · refine ⟨num, by rw [Nat.pow_succ]; omega, fun s => ?_⟩
      show s ∈ (if num / 2 ^ d % 2 = 1 then subs num d ++ [d] else subs num d) ↔ _
      rw [hz, if_neg (by decide), h s]
      constructor
      · rintro ⟨a, b⟩
        exact ⟨by omega, b⟩
      · rintro ⟨a, b⟩
        refine ⟨?_, b⟩
        have q : s ≠ d := fun z => hp (by rw [← z]; exact b)
        omega
theorem subs_len (num : Nat) : ∀ n, (subs num n).length ≤ n
  | 0 => Nat.le_refl _
  | d + 1 => by
    have := subs_len num d
    show (if num / 2 ^ d % 2 = 1 then subs num d ++ [d] else subs num d).length ≤ d + 1
    split
    · rw [List.length_append]
      simp
      omega
    · omega
/-- what serving day d costs from each day ahead -/
def costsOf (ws : List Int) (ts : List Tm) (S : List Nat) (d : Nat) : List Int := (S.filter fun s => decide (s ≤ d)).map fun s => srv ws ts s d
/-- the total of a choice of days, behind d days -/
def TotR (ws : List Int) (ts : List Tm) (S : List Nat) : Nat → Option Int → Prop
  | 0, t => t = some (S.map (setupOf ts)).sum
  | d + 1, t => ∃ t0, TotR ws ts S d t0 ∧ ((0 < ws.getD d 0 → (costsOf ws ts S d = [] → t = none) ∧ (costsOf ws ts S d ≠ [] → (t0 = none → t = none) ∧ ∀ a, t0 = some a → ∃ m ∈ costsOf ws ts S d, (∀ y ∈ costsOf ws ts S d, m ≤ y) ∧ t = some (a + m))) ∧ (¬ 0 < ws.getD d 0 → t = t0))
def OpenS (ts : List Tm) (S : List Nat) : Prop := ∀ s ∈ S, (tmAt ts s).1.isSome = true
/-- the least of all choices' totals -/
structure LeastR (ws : List Int) (ts : List Tm) (N : Nat) (r : Option Int) : Prop where
  low : ∀ num, num < N → OpenS ts (subs num ws.length) → ∃ t, TotR ws ts (subs num ws.length) ws.length t ∧ ∀ a, t = some a → ∃ l, r = some l ∧ l ≤ a
  got : ∀ l, r = some l → ∃ num, num < N ∧ OpenS ts (subs num ws.length) ∧ TotR ws ts (subs num ws.length) ws.length (some l)
section
variable {ws : List Int} {ts : List Tm} {vs : List Int}
theorem costs_mem {S : List Nat} {d : Nat} {m : Int} (h : m ∈ costsOf ws ts S d) : ∃ s ∈ S, s ≤ d ∧ m = srv ws ts s d := by
  obtain ⟨s, hs, rfl⟩ := List.mem_map.mp h
  have := List.mem_filter.mp hs
  exact ⟨s, this.1, of_decide_eq_true this.2, rfl⟩
theorem costs_of {S : List Nat} {d s : Nat} (h : s ∈ S) (hd : s ≤ d) : srv ws ts s d ∈ costsOf ws ts S d := List.mem_map_of_mem (List.mem_filter.mpr ⟨h, decide_eq_true hd⟩)
theorem gain_nn (ws : List Int) (ts : List Tm) (vs : List Int) (d s : Nat) : 0 ≤ gain ws ts vs d s := by unfold gain; omega
theorem slack_some (d s : Nat) : slackAt ws ts vs (d + 1) s = slackAt ws ts vs d s - (if s ≤ d then gain ws ts vs d s else 0) := by
  by_cases h : s ≤ d
  · rw [if_pos h, slack_step h]
  · rw [if_neg h]
    unfold slackAt
    rw [ld_low _ _ _ _ _ (show d + 1 ≤ s by omega), ld_low _ _ _ _ _ (show d ≤ s by omega)]
    omega
/-- no choice comes to less than right values -/
theorem tot_ge (h3 : vs.length = ws.length) (hw : ∀ w ∈ ws, 0 ≤ w) (hA : RightA ws vs ws.length) {S : List Nat} : ∀ (d : Nat) (t : Int), d ≤ ws.length → TotR ws ts S d (some t) → (vs.take d).sum + (S.map (slackAt ws ts vs d)).sum ≤ t
  | 0, t, _, h => by
    have e : some t = some (S.map (setupOf ts)).sum := h
    cases e
    have : S.map (slackAt ws ts vs 0) = S.map (setupOf ts) := List.map_congr_left fun s _ => by
      unfold slackAt
      show _ - 0 = _
      omega
    rw [this]
    simp
  | d + 1, t, hd, h => by
    obtain ⟨t0, h0, hp, hn⟩ := h
    have hdl : d < ws.length := by omega
    have g1 : ws[d]? = some (ws.getD d 0) := by rw [List.getD_eq_getElem?_getD, List.getElem?_eq_getElem hdl]; rfl
    have g3 : vs[d]? = some (vs.getD d 0) := by rw [List.getD_eq_getElem?_getD, List.getElem?_eq_getElem (by omega)]; rfl
    obtain ⟨v0, v1⟩ := hA d _ _ hdl g1 g3
    have hV := take_sumD (l := vs) (i := d) (by omega)
    have hsum : (S.map (slackAt ws ts vs (d + 1))).sum = (S.map (slackAt ws ts vs d)).sum - (S.map fun s => if s ≤ d then gain ws ts vs d s else 0).sum := sum_sub fun s _ => slack_some d s
    have hgn : ∀ s, 0 ≤ (if s ≤ d then gain ws ts vs d s else 0) := fun s => by
      split
      · exact gain_nn ws ts vs d s
      · exact Int.le_refl _
    have hg0 : 0 ≤ (S.map fun s => if s ≤ d then gain ws ts vs d s else 0).sum := sum_nn fun s _ => hgn s
    rw [hV, hsum]
    by_cases q : 0 < ws.getD d 0
    · obtain ⟨p1, p2⟩ := hp q
      by_cases hc : costsOf ws ts S d = []
      · have := p1 hc
        cases this
      · obtain ⟨p3, p4⟩ := p2 hc
        cases t0 with
        | none => have := p3 rfl; cases this
        | some a =>
          obtain ⟨m, hm, _, e⟩ := p4 a rfl
          cases e
          obtain ⟨s, hs, hsd, rfl⟩ := costs_mem hm
          have ih := tot_ge h3 hw hA d a (by omega) h0
          have h5 := sum_ge (l := S) hgn hs
          simp only [if_pos hsd] at h5
          have h6 : vs.getD d 0 - srv ws ts s d ≤ gain ws ts vs d s := by unfold gain; omega
          omega
    · have e := hn q
      rw [← e] at h0
      have ih := tot_ge h3 hw hA d t (by omega) h0
      have hwd : ws.getD d 0 = 0 := by
        have := hw _ (List.mem_of_getElem? g1)
        omega
      have := v1 hwd
      omega
/-- the choice of the days with orders comes to no more than they cost -/
theorem tot_le {os : List Int} (h1 : ts.length = ws.length) (h2 : os.length = ws.length) (tok : ∀ t ∈ ts, TermOk t) (hw : ∀ w ∈ ws, 0 ≤ w) (hf : Feas ws ts os ws.length) {S : List Nat} (hS : ∀ s, s ∈ S ↔ s < ws.length ∧ 0 < os.getD s 0)
    (hsm : (S.map (setupOf ts)).sum = ((used os ws.length).map (setupOf ts)).sum) : ∀ t, TotR ws ts S ws.length t → ∃ a, t = some a ∧ a ≤ costTo ws ts os ws.length := by
  have nn : ∀ d, 0 ≤ ws.getD d 0 := fun d => by
    rw [List.getD_eq_getElem?_getD]
    cases e : ws[d]? with
    | none => exact Int.le_refl _
    | some w => exact hw w (List.mem_of_getElem? e)
  have usedMem : ∀ {d s : Nat}, s < d → 0 < os.getD s 0 → s ∈ used os d := fun {d s} => by
    induction d with
    | zero => intro h; exact absurd h (Nat.not_lt_zero _)
    | succ d ih =>
      intro h1 h2
      show s ∈ (if 0 < os.getD d 0 then used os d ++ [d] else used os d)
      by_cases e : s = d
      · subst e
        rw [if_pos h2]
        simp
      · have := ih (by omega) h2
        split
        · exact List.mem_append_left _ this
        · exact this
  -- a day with wants has a day of orders ahead
  have hsome : ∀ d, d < ws.length → 0 < ws.getD d 0 → costsOf ws ts S d ≠ [] := fun d hd hp hc => by
    have none_ahead : ∀ s, s ≤ d → os.getD s 0 = 0 := fun s hs => by
      have h0 := (feas_at hf (show s < ws.length by omega)).1
      by_cases q : 0 < os.getD s 0
      · have := costs_of (ws := ws) (ts := ts) ((hS s).mpr ⟨by omega, q⟩) hs
        rw [hc] at this
        cases this
      · omega
    have zero : ∀ e, e ≤ d + 1 → (os.take e).sum = 0 := fun e => by
      induction e with
      | zero => intro _; simp
      | succ e ih =>
        intro he
        rw [take_sumD (by omega), ih (by omega), none_ahead e (by omega)]
        rfl
    have l0 := (feas_at hf hd).2.1
    rw [← left_next hd (by omega)] at l0
    unfold leftTo at l0
    rw [zero (d + 1) (Nat.le_refl _), take_sumD hd] at l0
    have wn : ∀ e, e ≤ d → 0 ≤ (ws.take e).sum := fun e => by
      induction e with
      | zero => intro _; simp
      | succ e ih =>
        intro he
        rw [take_sumD (by omega)]
        have := ih (by omega)
        have := nn e
        omega
    have := wn d (Nat.le_refl _)
    omega
  -- the least costs day by day, as values
  have hm : ∀ d, ∃ v : Int, d < ws.length → (0 < ws.getD d 0 → v ∈ costsOf ws ts S d ∧ ∀ y ∈ costsOf ws ts S d, v ≤ y) ∧ (¬ 0 < ws.getD d 0 → v = 0) := fun d => by
    by_cases hd : d < ws.length
    · by_cases hp : 0 < ws.getD d 0
      · have hne := hsome d hd hp
        obtain ⟨c, r, e⟩ := cons_of_ne hne
        rw [e]
        clear e hne
        have : ∀ (c : Int) (r : List Int), ∃ v ∈ c :: r, ∀ y ∈ c :: r, v ≤ y := fun c r => by
          induction r generalizing c with
          | nil => exact ⟨c, by simp, fun y hy => by cases List.mem_singleton.mp hy; exact Int.le_refl _⟩
          | cons b r ih =>
            obtain ⟨v, hv, hle⟩ := ih b
            by_cases q : c ≤ v
            · refine ⟨c, by simp, fun y hy => ?_⟩
              rcases List.mem_cons.mp hy with rfl | hy
              · exact Int.le_refl _
              · exact Int.le_trans q (hle y hy)
            · refine ⟨v, List.mem_cons_of_mem _ hv, fun y hy => ?_⟩
              rcases List.mem_cons.mp hy with rfl | hy
              · omega
              · exact hle y hy
        obtain ⟨v, hv, hle⟩ := this c r
        exact ⟨v, fun _ => ⟨fun _ => ⟨hv, hle⟩, fun q => absurd hp q⟩⟩
      · exact ⟨0, fun _ => ⟨fun q => absurd q hp, fun _ => rfl⟩⟩
    · exact ⟨0, fun q => absurd q hd⟩
  let f : Nat → Int := fun d => (hm d).choose
  have hf' : ∀ d, d < ws.length → (0 < ws.getD d 0 → f d ∈ costsOf ws ts S d ∧ ∀ y ∈ costsOf ws ts S d, f d ≤ y) ∧ (¬ 0 < ws.getD d 0 → f d = 0) := fun d => (hm d).choose_spec
  let vv : List Int := (List.range ws.length).map f
  have lvv : vv.length = ws.length := by simp [vv]
  have gvv : ∀ d, d < ws.length → vv.getD d 0 = f d := fun d hd => by
    rw [List.getD_eq_getElem?_getD]
    simp [vv, hd]
  have hA : RightA ws vv ws.length := fun i w v hi hw' hv => by
    have ew : ws.getD i 0 = w := getD_of hw'
    have ev : vv.getD i 0 = v := getD_of hv
    rw [gvv i hi] at ev
    have := hf' i hi
    rw [ew] at this
    have hw0 := nn i
    by_cases hp : 0 < w
    · obtain ⟨a, _⟩ := this.1 hp
      obtain ⟨s, hs, hsd, e⟩ := costs_mem a
      have := srv_nn (ws := ws) tok hw hsd (by have := ((hS s).mp hs).1; omega)
      exact ⟨by omega, fun z => by omega⟩
    · have := this.2 hp
      exact ⟨by omega, fun _ => by omega⟩
  obtain ⟨l0, hd⟩ := dual_step h1 h2 lvv tok hw hf hA ws.length (Nat.le_refl _)
  have ev : vv.take ws.length = vv := by rw [← lvv, List.take_length]
  rw [ev] at hd
  -- the slack of the days with orders is their whole setup
  have hslack : ∀ s ∈ used os ws.length, slackAt ws ts vv ws.length s = setupOf ts s := fun s hs => by
    obtain ⟨s1, s2⟩ := used_lt os _ s hs
    have hz : ∀ k, k ≤ ws.length → ld ws ts vv s k = 0 := fun k => by
      induction k with
      | zero => intro _; rfl
      | succ k ih =>
        intro hk
        show ld ws ts vv s k + (if s ≤ k then _ else 0) = 0
        rw [ih (by omega)]
        split
        · rename_i hsk
          rw [gvv k (by omega)]
          have h5 := hf' k (by omega)
          by_cases hp : 0 < ws.getD k 0
          · have := (h5.1 hp).2 _ (costs_of (ws := ws) (ts := ts) ((hS s).mpr ⟨s1, s2⟩) hsk)
            omega
          · have := h5.2 hp
            have := srv_nn (ws := ws) tok hw hsk (by omega)
            omega
        · rfl
    unfold slackAt
    rw [hz ws.length (Nat.le_refl _)]
    omega
  have hbound : vv.sum + (S.map (setupOf ts)).sum ≤ costTo ws ts os ws.length := by
    rw [hsm]
    rcases hd with ⟨u0, _, h⟩ | ⟨s, hs, h⟩
    · rw [u0]
      simpa using h
    · rw [show (used os ws.length).map (slackAt ws ts vv ws.length) = (used os ws.length).map (setupOf ts) from List.map_congr_left hslack] at h
      have hl : 0 ≤ leftTo ws os ws.length * (unit0 ts s + keepSum ts ws.length) := by
        refine Int.mul_nonneg l0 ?_
        have s1 := (used_lt os _ s hs).1
        have g : ts[s]? = some (tmAt ts s) := by unfold tmAt; rw [List.getD_eq_getElem?_getD, List.getElem?_eq_getElem (by omega)]; rfl
        have hp := (tok _ (List.mem_of_getElem? g)).p0
        have hk := keepSum_mono tok (i := s) (j := ws.length) (by omega)
        unfold unit0
        omega
      omega
  -- the total is just that
  have htot : ∀ d, d ≤ ws.length → ∀ t, TotR ws ts S d t → t = some ((vv.take d).sum + (S.map (setupOf ts)).sum) := fun d => by
    induction d with
    | zero =>
      intro _ t ht
      have e : t = some (S.map (setupOf ts)).sum := ht
      rw [e]
      simp
    | succ d ih =>
      intro hdl t ht
      obtain ⟨t0, h0, hp, hn⟩ := ht
      have e0 := ih (by omega) t0 h0
      have h5 := hf' d (by omega)
      rw [take_sumD (by omega), gvv d (by omega)]
      by_cases q : 0 < ws.getD d 0
      · obtain ⟨_, p2⟩ := hp q
        obtain ⟨m, hm1, hm2, e⟩ := (p2 (hsome d (by omega) q)).2 _ e0
        obtain ⟨a1, a2⟩ := h5.1 q
        have b1 := hm2 _ a1
        have b2 := a2 _ hm1
        rw [e]
        congr 1
        omega
      · rw [hn q, e0, h5.2 q]
        congr 1
        omega
  intro t ht
  have e := htot ws.length (Nat.le_refl _) t ht
  rw [ev] at e
  exact ⟨_, e, hbound⟩
end
end N
namespace N
open PySem L2 VL
theorem subs_mem {num : Nat} : ∀ {n s : Nat}, s ∈ subs num n ↔ s < n ∧ num / 2 ^ s % 2 = 1
  | 0, _ => ⟨fun h => (by cases h), fun h => absurd h.1 (Nat.not_lt_zero _)⟩
  | d + 1, s => by
    show s ∈ (if num / 2 ^ d % 2 = 1 then subs num d ++ [d] else subs num d) ↔ _
    by_cases e : num / 2 ^ d % 2 = 1
    · rw [if_pos e, List.mem_append, subs_mem, List.mem_singleton]
      constructor
      · rintro (⟨a, b⟩ | rfl)
        · exact ⟨by omega, b⟩
        · exact ⟨Nat.lt_succ_self _, e⟩
      · rintro ⟨a, b⟩
        by_cases q : s = d
        · exact .inr q
        · exact .inl ⟨by omega, b⟩
    · rw [if_neg e, subs_mem]
      constructor
      · rintro ⟨a, b⟩
        exact ⟨by omega, b⟩
      · rintro ⟨a, b⟩
        have q : s ≠ d := fun z => e (by rw [← z]; exact b)
        exact ⟨by omega, b⟩
theorem subs_used {num : Nat} {os : List Int} : ∀ {n : Nat}, (∀ s, s < n → (num / 2 ^ s % 2 = 1 ↔ 0 < os.getD s 0)) → subs num n = used os n
  | 0, _ => rfl
  | d + 1, h => by
    show (if num / 2 ^ d % 2 = 1 then subs num d ++ [d] else subs num d) = (if 0 < os.getD d 0 then used os d ++ [d] else used os d)
    rw [subs_used fun s hs => h s (by omega)]
    by_cases e : num / 2 ^ d % 2 = 1
    · rw [if_pos e, if_pos ((h d (Nat.lt_succ_self _)).mp e)]
    · rw [if_neg e, if_neg fun z => e ((h d (Nat.lt_succ_self _)).mpr z)]
theorem used_mem {os : List Int} : ∀ {d s : Nat}, s ∈ used os d ↔ s < d ∧ 0 < os.getD s 0
  | d, s => ⟨used_lt os d s, fun h => by
    obtain ⟨h1, h2⟩ := h
    induction d with
    | zero => exact absurd h1 (Nat.not_lt_zero _)
    | succ d ih =>
      show s ∈ (if 0 < os.getD d 0 then used os d ++ [d] else used os d)
      by_cases e : s = d
      · subst e
        rw [if_pos h2]
        simp
      · have := ih (by omega)
        split
        · exact List.mem_append_left _ this
        · exact this⟩
/-- the least of all choices is what the orders cost -/
theorem least_is {ws : List Int} {ts : List Tm} {vs os : List Int} (h1 : ts.length = ws.length) (h2 : os.length = ws.length) (h3 : vs.length = ws.length) (tok : ∀ t ∈ ts, TermOk t) (hw : ∀ w ∈ ws, 0 ≤ w) (hr : RightV ws ts vs) (hc : costOf ws ts os = some vs.sum)
    {r : Option Int} (h : LeastR ws ts (2 ^ ws.length) r) : r = some vs.sum := by
  obtain ⟨hf, he⟩ := cost_feas h1 h2 hc
  obtain ⟨num, hn, hm⟩ := subs_of (fun s => decide (0 < os.getD s 0)) ws.length
  have hu : subs num ws.length = used os ws.length := subs_used fun s hs => by
    have a := (hm s).trans (by rw [decide_eq_true_iff])
    have b := subs_mem (num := num) (n := ws.length) (s := s)
    constructor
    · intro z
      exact (a.mp (b.mpr ⟨hs, z⟩)).2
    · intro z
      exact (b.mp (a.mpr ⟨hs, z⟩)).2
  have ho : OpenS ts (subs num ws.length) := fun s hs => by
    rw [hu] at hs
    obtain ⟨a, b⟩ := used_lt os _ s hs
    exact (feas_at hf a).2.2 b
  obtain ⟨t, ht, hl⟩ := h.low num hn ho
  obtain ⟨a, ha, hle⟩ := tot_le h1 h2 tok hw hf (S := subs num ws.length) (fun s => by rw [hu]; exact used_mem) (by rw [hu]) t ht
  obtain ⟨l, hrl, hla⟩ := hl a ha
  obtain ⟨num2, hn2, ho2, ht2⟩ := h.got l hrl
  have hge := tot_ge h3 hw hr.1 (S := subs num2 ws.length) ws.length l (Nat.le_refl _) ht2
  have ev : vs.take ws.length = vs := by rw [← h3, List.take_length]
  rw [ev] at hge
  have hsl : 0 ≤ ((subs num2 ws.length).map (slackAt ws ts vs ws.length)).sum := sum_nn fun s hs => by
    have hsl := subs_lt hs
    obtain ⟨q, hq⟩ := Option.isSome_iff_exists.mp (ho2 s hs)
    have g : ts[s]? = some (tmAt ts s) := by unfold tmAt; rw [List.getD_eq_getElem?_getD, List.getElem?_eq_getElem (by omega)]; rfl
    have := hr.2 s _ q hsl g hq
    unfold slackAt setupOf
    have e : (ts.getD s (none, 0, 0)).1 = some q := hq
    rw [e]
    simp
    exact this
  rw [hrl]
  congr 1
  omega
end N

namespace N
open PySem L2 VL
def topS (i : Nat) : Stmt := PySem.Challenge.pw_needplan_k45_plain_model_beside.main.body.getD i (.Pass ⟨0, 0, 0, 0⟩)
local macro_rules | `(tactic| walk_at "u") => `(tactic| first
  | (with_reducible refine fz_p ?_) | (with_reducible refine fz_o ?_) | (with_reducible refine fz_m ?_)
  | (with_reducible refine ex_bl ?_) | (with_reducible refine ex_int ?_) | (with_reducible refine ex_io ?_)
  | ((with_reducible refine' ex_plains ?h1 ?h2 ?_); (case h1 => exact rfl); (case h2 => exact rfl))
  | ((with_reducible refine' vs_append ?h ?_); (case h => exact rfl))
  | (with_reducible refine vs_asg ?_) | (with_reducible refine vs_ret ?_) | (with_reducible refine vs_expr ?_)
  | ((with_reducible refine' vs_aug ?h ?_); (case h => exact rfl))
  | (with_reducible refine vs_next ?_) | (with_reducible refine vs_break ?_) | (with_reducible refine vs_cont ?_) | (with_reducible refine vs_retN ?_)
  | ((with_reducible refine vg_p ?h ?_); (case h => exact Nat.le_of_ble_eq_true rfl))
  | ((with_reducible refine vg_o ?h ?_); (case h => exact Nat.le_of_ble_eq_true rfl))
  | ((with_reducible refine vg_tup ?h ?_); (case h => exact rfl))
  | ((with_reducible refine vg_lst ?h ?_); (case h => exact rfl))
  | (with_reducible refine vgs_cons ?_) | (with_reducible refine vgs_nil ?_)
  | ((with_reducible refine' ve_var ?h ?_); (case h => exact rfl))
  | ((with_reducible refine' ve_varm ?h ?_); (case h => exact rfl))
  | (with_reducible refine ve_int ?_) | (with_reducible refine ve_str ?_) | (with_reducible refine ve_bl ?_) | (with_reducible refine ve_non ?_)
  | (with_reducible refine ve_op ?_) | (with_reducible refine ve_un ?_) | (with_reducible refine ve_cb ?_)
  | (with_reducible refine ve_tup ?_) | (with_reducible refine ve_lst ?_) | (with_reducible refine ve_dnew ?_) | (with_reducible refine ve_slice ?_)
  | (with_reducible refine va_cons ?_) | (with_reducible refine va_nil ?_)
  | (with_reducible refine vp_none ?_) | (with_reducible refine vp_some ?_)
  | (with_reducible refine vt_B ?_) | (with_reducible refine vt_test ?_) | (with_reducible refine vt_and ?_) | (with_reducible refine vt_or ?_) | (with_reducible refine vt_not ?_) | (with_reducible refine vt_yes ?_)
  | (with_reducible refine ve_andV ?_) | (with_reducible refine ve_orV ?_) | (with_reducible refine ve_notV ?_) | (with_reducible refine ve_if ?_)
  | (with_reducible refine vo_I0 ?_) | (with_reducible refine vo_B0 ?_) | (with_reducible refine vo_ip ?_) | (with_reducible refine vu_I ?_)
  | (with_reducible refine vo_eq_int ?_) | (with_reducible refine vo_ne_int ?_) | (with_reducible refine vo_eq_str ?_) | (with_reducible refine vo_ne_str ?_) | (with_reducible refine vo_eq_bl ?_) | (with_reducible refine vo_ne_bl ?_)
  | (with_reducible refine vo_isN ?_) | (with_reducible refine vo_notN ?_)
  | ((with_reducible refine' vc_lenL ?h ?_); (case h => exact rfl)) | (with_reducible refine vc_lenT ?_)
  | ((with_reducible refine' vc_listL ?h ?_); (case h => exact rfl)) | (with_reducible refine vc_listT ?_)
  | ((with_reducible refine' vc_tupL ?h ?_); (case h => exact rfl))
  | (with_reducible refine vc_max2 ?_) | (with_reducible refine vc_min2 ?_) | (with_reducible refine vc_abs ?_) | (with_reducible refine vc_intB ?_)
  | ((with_reducible refine' vsl_list ?h ?_); (case h => exact rfl)) | (with_reducible refine vsl_tup ?_)
  | ((with_reducible refine vo_pow ?h ?_); (case h => exact ⟨by decide, by decide, by decide⟩))
  | ((with_reducible refine vo_mulq ?_ ?h); (case h => first | exact .inl (.inr ⟨by decide, by decide⟩) | exact .inl (.inl ⟨by decide, by decide⟩) | exact .inl (.inl ⟨by omega, by omega⟩) | exact .inl (.inr ⟨by omega, by omega⟩)))
  | (with_reducible refine vo_mulq ?_ ?hmul)
  | ((with_reducible refine vo_divq ?_ ?h); (case h => exact ⟨by first | decide | omega, by decide⟩))
  | (with_reducible refine vo_divq ?_ ?hdiv)
  | ((with_reducible refine vo_modq ?_ ?h); (case h => first | decide | omega))
  | (with_reducible refine vo_modq ?_ ?hmod)
  | (with_reducible refine ve_ty ?_)
  | ((with_reducible refine' vc_isi ?h1 ?h2 ?_); (case h1 => exact rfl); (case h2 => exact rfl))
  | (with_reducible refine ve_dget ?_) | (with_reducible refine ve_din ?_) | (with_reducible refine ve_dnotin ?_))
local macro_rules | `(tactic| walk_at "c") => `(tactic| (with_reducible refine ve_call lets_none ?_))
local macro_rules | `(tactic| walk_at "co") => `(tactic| (with_reducible refine ve_callO lets_none ?_))
local macro_rules | `(tactic| walk_at "v") => `(tactic| first | walk_at "u" | (with_reducible refine vs_seq ?_))
local macro_rules | `(tactic| walk_at "cm") => `(tactic| (with_reducible refine ve_callM lets_none ?_))

structure Glb (K : PySem.W.Frag) (mg : Str → Option Value) : Prop where
  one : True
  b_all : mg "all" = none
  b_enumerate : mg "enumerate" = none
  b_len : mg "len" = none
  b_list : mg "list" = none
  b_max : mg "max" = none
  b_min : mg "min" = none
  b_range : mg "range" = none
  b_sum : mg "sum" = none
/-! ### _law_drawn -/
abbrev s__law_drawn : Stmt := topS 10
abbrev N__law_drawn : List Str := ["script", "seed", "cell"]
theorem sc__law_drawn : FnScope N__law_drawn ["script"] (defScope s__law_drawn) := ⟨rfl, rfl, rfl, by decide +kernel, rfl, by decide +kernel, by decide +kernel⟩
section
variable {P : Program} {w : World} {K : PySem.W.Frag} {mg : Str → Option Value} {base : Heap}
abbrev sp__law_drawn (K : PySem.W.Frag) : Sp := SpA K Gd true (fun ns : List Int => [.ro (ns.map D.int)]) (fun ns => ns.length ≤ 63) (fun _ d => ∃ l : List Int, d = .lst (l.map D.int) ∧ Gd l) noRs
theorem c__law_drawn (Dn : Dfn K mg "_law_drawn" s__law_drawn ["script"]) (Z : Glb K mg)  : Cal P w K mg base 1 "_law_drawn" (sp__law_drawn K) [] := by
  obtain ⟨f, fd, F, hm, hb⟩ := Dn.ex
  refine ⟨f, fd, ["script"], [], ?_, hm, F.kp, hb, .nil⟩
  refine F.ok sc__law_drawn (fun vs H Q E h => spA_len (fun _ => rfl) h) (fun cdv A outer s H vs Q E hr h => ?_)
  refine ⟨_, (pss_cons (ps_set (i := 1) sc__law_drawn.nd rfl (.inl rfl) pe_int)
    (pss_cons (ps_for PassesOwn.never rfl (pi_list (pv 0)) (pg_name (i := 2) sc__law_drawn.nd rfl (.inl rfl))
    (pss_one (ps_set (i := 1) sc__law_drawn.nd rfl (.inl rfl) (pe_op op_mod (pe_op op_add (pe_op op_add (pe_op (op_mul.or op_mulW) (pv 1) pe_int) (pe_op op_mod (pv 2) (pe_op op_pow pe_int pe_int))) pe_int) (pe_op op_sub (pe_op op_pow pe_int pe_int) pe_int)))))
    (pss_cons (ps_if ((pw_and (pt_cmpR op_gt (pe_callB call_len_seq (by rfl) Z.b_len PySem.boot_len (pa_cons (pv 0) pa_nil)) pe_int (nomark _)) (pw_and1 (pt_cmpR op_eq (pe_op op_mod (pe_ix ix_list (pv 0) pe_int (fun _ _ => rfl)) pe_int) pe_int (nomark _))))).pt
    (pss_one (ps_ret (pe_op op_cat (pe_op op_cat (pe_lst (pa_cons (pe_op op_fdivW (pe_ix ix_list (pv 0) pe_int (fun _ _ => rfl)) pe_int) pa_nil)) (pe_slice sl_list (pv 0) (po_some pe_int) (po_some pe_int))) (pe_lst (pa_cons (pv 1) pa_nil)))))
    pss_nil)
    (pss_one (ps_ret (pe_lst (pa_cons (pv 1) pa_nil))))))), ?_⟩
  try dsimp only [cxOf, Cx.nox, Cx.wish]
  refine run_def (N := N__law_drawn) (fun _ => Nat.le_of_ble_eq_true rfl) (env0 := fun ns => [.p (.ro (ns.map D.int)), .u, .u]) (fun _ => rfl) (fun B ns hp L => ?_) h
  repeat walk_at "v"
  refine vs_for (vi_l ?_)
  repeat walk_at "v"
  refine ⟨_, rfl, fun i e => ∃ s x, e = [.p (.ro (ns.map D.int)), .p (.int s), x], ⟨_, _, rfl⟩, ?_, ?_⟩
  · rintro i d e hi ⟨s, x, rfl⟩
    obtain ⟨n, hn, rfl⟩ := map_get hi
    repeat walk_at "v"
    exact ⟨_, _, rfl⟩
  · rintro e ⟨s, x, rfl⟩
    repeat walk_at "v"
    refine vs_if ?_
    repeat walk_at "v"
    refine ⟨fun hb => ?_, fun hb => ?_⟩
    · obtain ⟨n, r, rfl⟩ := cons_of_ne (l := ns) (fun z => by subst z; simp at hb)
      repeat walk_at "v"
      refine vo_ixL rfl (atI_nat (j := 0) rfl) ?_
      repeat walk_at "v"
      refine ⟨fun _ => ?_, fun _ => ?_⟩
      · repeat walk_at "v"
        refine vo_ixL rfl (atI_nat (j := 0) rfl) ?_
        repeat walk_at "v"
        rw [cutD_ints]
        have hlen : (List.take (HT.sIx (n :: r).length (n :: r).length (some 63) - HT.sIx (n :: r).length 0 (some 1)) (List.drop (HT.sIx (n :: r).length 0 (some 1)) (n :: r))).length ≤ 63 := by
          rw [List.length_take, List.length_drop]
          omega
        refine vo_cat rfl rfl (by rw [List.length_map]; show 1 + _ ≤ 100000; omega) ?_
        repeat walk_at "v"
        refine vo_cat rfl rfl (by rw [List.length_append, List.length_map]; show 1 + _ + 1 ≤ 100000; omega) ?_
        refine ⟨[n / 2] ++ List.take (HT.sIx (n :: r).length (n :: r).length (some 63) - HT.sIx (n :: r).length 0 (some 1)) (List.drop (HT.sIx (n :: r).length 0 (some 1)) (n :: r)) ++ [s], by rw [List.map_append, List.map_append]; rfl, by simp, ?_⟩
        rw [List.length_append, List.length_append]
        show 1 + _ + 1 ≤ 100
        omega
      · repeat walk_at "v"
        exact ⟨[s], rfl, by simp, by simp⟩
    · refine and_f rfl ?_
      repeat walk_at "v"
      exact ⟨[s], rfl, by simp, by simp⟩

end
/-! ### _law_next -/
abbrev s__law_next : Stmt := topS 9
abbrev N__law_next : List Str := ["state", "many", "digit"]
theorem sc__law_next : FnScope N__law_next ["state", "many"] (defScope s__law_next) := ⟨rfl, rfl, rfl, by decide +kernel, rfl, by decide +kernel, by decide +kernel⟩
section
variable {P : Program} {w : World} {K : PySem.W.Frag} {mg : Str → Option Value} {base : Heap}
abbrev sp__law_next (K : PySem.W.Frag) : Sp := SpA K Gd false (fun m : Int => [.st, .int m]) (fun m => 0 < m ∧ m ≤ 10 ^ 20) (fun m d => ∃ k, d = .int k ∧ 0 ≤ k ∧ k < m) noRs
theorem c__law_next (Dn : Dfn K mg "_law_next" s__law_next ["state", "many"]) (Z : Glb K mg)  : Cal P w K mg base 1 "_law_next" (sp__law_next K) [] := by
  obtain ⟨f, fd, F, hm, hb⟩ := Dn.ex
  refine ⟨f, fd, ["state", "many"], [], ?_, hm, F.kp, hb, .nil⟩
  refine F.ok sc__law_next (fun vs H Q E h => spA_len (fun _ => rfl) h) (fun cdv A outer s H vs Q E hr h => ?_)
  refine ⟨_, (pss_cons (ps_if (pt_cmpR op_gt (pe_callB call_len_seq (by rfl) Z.b_len PySem.boot_len (pa_cons (pv 0) pa_nil)) pe_int (nomark _))
    (pss_cons (ps_set (i := 2) sc__law_next.nd rfl (.inl rfl) (pe_op op_mod (pe_ix ix_list (pv 0) pe_int (fun _ _ => rfl)) (pv 1)))
      (pss_cons (ps_asg (pe_op op_fdivW (pe_ix ix_list (pv 0) pe_int (fun _ _ => rfl)) (pv 1)) (pg_sub (pv 0) pe_int set_list))
      (pss_cons (ps_if (pt_cmpR op_in_seq (pe_ix ix_list (pv 0) pe_int (fun _ _ => rfl)) (pe_tup (pa_cons pe_int (pa_cons (pe_un un_neg pe_int) pa_nil))) (by rfl))
      (pss_one (ps_expr (pe_bm PySem.F.plainAttrs_list PySem.F.slot_list_pop PySem.F.type_list_pop mt_popAt (pv 0) (pa_cons pe_int pa_nil))))
      pss_nil)
      (pss_one (ps_ret (pv 2))))))
    pss_nil)
    (pss_cons (ps_asg (pe_op op_mod (pe_op op_add (pe_op (op_mul.or op_mulW) (pe_ix ix_list (pv 0) pe_int (fun _ _ => rfl)) pe_int) pe_int) (pe_op op_sub (pe_op op_pow pe_int pe_int) pe_int)) (pg_sub (pv 0) pe_int set_list))
    (pss_one (ps_ret (pe_op op_mod (pe_op op_fdivW (pe_ix ix_list (pv 0) pe_int (fun _ _ => rfl)) pe_int) (pv 1)))))), ?_⟩
  try dsimp only [cxOf, Cx.nox, Cx.wish]
  obtain ⟨R, m, s, ha, ⟨hm, hm2⟩, q, _⟩ := h
  have hlog : m.natAbs.log2 < 9000 := by
    rw [Nat.log2_lt (by omega)]
    exact Nat.lt_of_le_of_lt (show m.natAbs ≤ 10 ^ 20 by omega) (by decide)
  cases ha with
  | cons h1 t =>
  cases t with
  | cons h2 t =>
  cases t
  cases h2
  obtain ⟨a, φ, rfl, hR⟩ := st_at h1
  obtain ⟨ns, hH, hg1, hg2⟩ := s a _ hR
  obtain ⟨x, r, rfl⟩ : ∃ x r, ns = x :: r := by
    cases ns with
    | nil => exact absurd rfl hg1
    | cons x r => exact ⟨x, r, rfl⟩
  have hL : SqL K H a ((x :: r).map V.int) := .inl (.inl hH)
  have at0 : ∀ (y : Int), atI ((y :: r).map V.int) 0 = some (.int y) := fun y => atI_nat (j := 0) rfl
  have ix0 : ∀ (y : Int), ixN ((y :: r).map V.int).length 0 = some 0 := fun y => by simp [ixN]
  have sq0 : seqIndex? 0 ((x / m :: r).map V.int).length = some 0 := by
    rw [seqIndex_of (by decide) (by simp <;> omega)]
    rfl
  have fin : ∀ (k : Int) (H' : Hp), 0 ≤ k → k < m → VL.Step Gd R H R H' → Q (.int k) H' := fun k H' k0 k1 st => q _ R H' (.int k) st (.int k) (fun z => by cases z) ⟨k, rfl, k0, k1⟩
  refine ⟨.ref a, rfl, a, _, rfl, .inl hL, _, _, rfl, rfl, _, rfl, ite2 (fun hc => ?_) (fun hc => ?_)⟩
  · have hc1 : (1 : Int) < (((x :: r).map V.int).length : Int) := of_decide_eq_true hc
    have hr1 : r ≠ [] := fun z => by
      subst z
      exact absurd hc1 (by show ¬ (1 : Int) < 1; decide)
    have g1 : Gd (x / m :: r) := ⟨by simp, by simpa using hg2⟩
    have g2 : Gd r := ⟨hr1, by simp at hg2; omega⟩
    have st1 := step_st s hR g1
    refine ⟨.ref a, rfl, a, _, 0, .int x, rfl, rfl, hL, at0 x, .int m, rfl, _, _, rfl, rfl, hm, ?_⟩
    refine ⟨.ref a, rfl, a, _, 0, .int x, rfl, rfl, hL, at0 x, .int m, rfl, _, _, rfl, rfl, ⟨hm, hlog⟩, .ref a, rfl, a, _, 0, 0, rfl, rfl, hH, ix0 x, ?_⟩
    have hH1 : (upd H a (.lst ((x / m :: r).map V.int))) a = some (.lst ((x / m :: r).map V.int)) := upd_same
    have hL1 : SqL K (upd H a (.lst ((x / m :: r).map V.int))) a ((x / m :: r).map V.int) := .inl (.inl hH1)
    refine ⟨.ref a, rfl, a, _, 0, .int (x / m), rfl, rfl, hL1, at0 _, _, rfl, by show 2 ≤ sizeLine; decide, fun T hT => ?_⟩
    have naT : a ≠ T := ne_of_none hH1 hT
    have st2 := st1.trans (step_new (o := .tup [.int 0, .int (-1)]) st1.sub hT)
    have hH2 : (upd (upd H a (.lst ((x / m :: r).map V.int))) T (.tup [.int 0, .int (-1)])) a = some (.lst ((x / m :: r).map V.int)) := by
      rw [upd_ne naT]
      exact hH1
    refine ⟨T, _, rfl, .inr (.inl (.inl upd_same)), rfl, rfl, _, rfl, ite2 (fun _ => ?_) (fun _ => ?_)⟩
    · refine ⟨.ref a, rfl, .inl ⟨rfl, _, .inl (.inl hH2)⟩, a, _, 0, 0, .int (x / m), rfl, rfl, hH2, by decide, by decide, sq0, rfl, ?_⟩
      refine ⟨_, rfl, fin _ _ (Int.emod_nonneg _ (by omega)) (Int.emod_lt_of_pos _ hm) ?_⟩
      exact st2.trans (step_st st2.sub hR g2)
    · exact ⟨_, rfl, fin _ _ (Int.emod_nonneg _ (by omega)) (Int.emod_lt_of_pos _ hm) st2⟩
  · refine ⟨.ref a, rfl, a, _, 0, .int x, rfl, rfl, hL, at0 x, ?_⟩
    refine .inl ⟨_, _, rfl, rfl, .inr ⟨by decide, by decide⟩, _, _, rfl, rfl, _, _, rfl, rfl, ⟨by decide, by decide, by decide⟩, _, _, rfl, rfl, _, _, rfl, rfl, (by show (0 : Int) < 2 ^ (61 : Int).toNat - 1; decide), .ref a, rfl, a, _, 0, 0, rfl, rfl, hH, ix0 x, ?_⟩
    have g3 : Gd ((x * 1181783497276652981 + 12345678910987) % (2 ^ (61 : Int).toNat - 1) :: r) := ⟨by simp, by simpa using hg2⟩
    have st3 := step_st s hR g3
    refine ⟨.ref a, rfl, a, _, 0, .int ((x * 1181783497276652981 + 12345678910987) % (2 ^ (61 : Int).toNat - 1)), rfl, rfl, .inl (.inl upd_same), at0 _, _, _, rfl, rfl, ⟨by decide, by decide⟩, .int m, rfl, _, _, rfl, rfl, hm, fin _ _ (Int.emod_nonneg _ (by omega)) (Int.emod_lt_of_pos _ hm) st3⟩

end
/-! ### _law_terms -/
abbrev s__law_terms : Stmt := topS 12
abbrev N__law_terms : List Str := ["state", "days", "terms", "spread", "day", "setup", "keep"]
theorem sc__law_terms : FnScope N__law_terms ["state", "days"] (defScope s__law_terms) := ⟨rfl, rfl, rfl, by decide +kernel, rfl, by decide +kernel, by decide +kernel⟩
section
variable {P : Program} {w : World} {K : PySem.W.Frag} {mg : Str → Option Value} {base : Heap}
abbrev sp__law_terms (K : PySem.W.Frag) : Sp := SpA K Gd true (fun n : Nat => [.st, .int n]) (fun n => n ≤ 100) (fun n d => ∃ ts : List Tm, d = .lst (ts.map tmD) ∧ ts.length = n ∧ ∀ t ∈ ts, TermOk t) noRs
theorem c__law_terms (Dn : Dfn K mg "_law_terms" s__law_terms ["state", "days"]) (Z : Glb K mg) (C__law_next : Cal P w K mg base 1 "_law_next" (sp__law_next K) []) : Cal P w K mg base 2 "_law_terms" (sp__law_terms K) [] := by
  obtain ⟨f, fd, F, hm, hb⟩ := Dn.ex
  refine ⟨f, fd, ["state", "days"], [], ?_, hm, F.kp, hb, .nil⟩
  refine F.ok sc__law_terms (fun vs H Q E h => spA_len (fun _ => rfl) h) (fun cdv A outer s H vs Q E hr h => ?_)
  refine ⟨_, (pss_cons (ps_set (i := 2) sc__law_terms.nd rfl (.inl rfl) (pe_lst pa_nil))
    (pss_cons (ps_set (i := 3) sc__law_terms.nd rfl (.inl rfl) (pe_ix ix_list (pe_lst (pa_cons pe_int (pa_cons pe_int (pa_cons pe_int pa_nil)))) (pe_c C__law_next hr (by decide) (by rfl) (pa_cons (pv 0) (pa_cons pe_int pa_nil))) (fun _ _ => rfl)))
    (pss_cons (ps_for PassesOwn.never rfl (pi_range1 (by rfl) Z.b_range (pa_cons (pv 1) pa_nil)) (pg_name (i := 4) sc__law_terms.nd rfl (.inl rfl))
    (pss_cons (ps_set (i := 5) sc__law_terms.nd rfl (.inl rfl) (pe_c C__law_next hr (by decide) (by rfl) (pa_cons (pv 0) (pa_cons (pe_op (op_mul.or op_mulW) pe_int (pv 3)) pa_nil))))
      (pss_cons (ps_if (pt_cmpR op_eq (pe_c C__law_next hr (by decide) (by rfl) (pa_cons (pv 0) (pa_cons pe_int pa_nil))) pe_int (nomark _))
      (pss_one (ps_set (i := 5) sc__law_terms.nd rfl (.inl rfl) pe_non))
      pss_nil)
      (pss_cons (ps_set (i := 6) sc__law_terms.nd rfl (.inl rfl) (pe_c C__law_next hr (by decide) (by rfl) (pa_cons (pv 0) (pa_cons (pe_ix ix_list (pe_lst (pa_cons pe_int (pa_cons (pv 3) pa_nil))) (pe_c C__law_next hr (by decide) (by rfl) (pa_cons (pv 0) (pa_cons pe_int pa_nil))) (fun _ _ => rfl)) pa_nil))))
      (pss_one (ps_expr (pe_bm PySem.F.plainAttrs_list PySem.F.slot_list_append PySem.F.type_list_append mt_append (pv 2) (pa_cons (pe_tup (pa_cons (pv 5) (pa_cons (pe_c C__law_next hr (by decide) (by rfl) (pa_cons (pv 0) (pa_cons (pv 3) pa_nil))) (pa_cons (pv 6) pa_nil)))) pa_nil))))))))
    (pss_one (ps_ret (pv 2)))))), ?_⟩
  try dsimp only [cxOf, Cx.nox, Cx.wish]
  refine run_def (N := N__law_terms) (fun _ => Nat.le_of_ble_eq_true rfl) (env0 := fun n : Nat => [.p .st, .p (.int n), .u, .u, .u, .u, .u]) (fun _ => rfl) (fun B n hp L => ?_) h
  repeat walk_at "v"
  walk_at "c"
  repeat walk_at "v"
  refine ⟨_, rfl, ⟨by first | decide | omega, by first | decide | omega⟩, fun _ h => h, ?_⟩
  rintro _ ⟨k, rfl, k0, k1⟩
  repeat walk_at "v"
  obtain ⟨d, hd, hdd⟩ := pick3k (a := .int 3) (b := .int 12) (c := .int 40) k0 k1
  refine vo_ixL rfl hd ?_
  obtain ⟨g, rfl, g0, g1⟩ : ∃ g : Int, d = .int g ∧ 3 ≤ g ∧ g ≤ 40 := by
    rcases hdd with rfl | rfl | rfl
    · exact ⟨_, rfl, by decide, by decide⟩
    · exact ⟨_, rfl, by decide, by decide⟩
    · exact ⟨_, rfl, by decide, by decide⟩
  repeat walk_at "v"
  refine vs_for (vi_range1 ?_)
  repeat walk_at "v"
  refine ⟨_, rfl, ⟨by omega, by omega⟩, fun i e => ∃ ts x y z, e = [.p .st, .p (.int n), .mu (.lst (ts.map tmD)), .p (.int g), x, y, z] ∧ ts.length = i ∧ ∀ t ∈ ts, TermOk t, ⟨[], .u, .u, .u, rfl, rfl, fun _ h => by cases h⟩, ?_, ?_⟩
  · rintro i d e hi ⟨ts, x, y, z, rfl, hl, hok⟩
    obtain ⟨hi2, rfl⟩ := rangeD_get hi
    have hi3 : i < n := by omega
    repeat walk_at "v"
    walk_at "c"
    repeat walk_at "v"
    refine ⟨_, rfl, ⟨by first | decide | omega, by first | decide | omega⟩, fun _ h => h, ?_⟩
    rintro _ ⟨s, rfl, s0, s1⟩
    repeat walk_at "v"
    refine vs_cut (fun e => ∃ s : Option Int, (∀ x, s = some x → 0 ≤ x ∧ x < 160) ∧ e = [.p .st, .p (.int n), .mu (.lst (ts.map tmD)), .p (.int g), .p (.int (0 + (i : Nat))), .p (oi s), z]) (vs_if ?_) ?_
    · repeat walk_at "v"
      walk_at "c"
      repeat walk_at "v"
      refine ⟨_, rfl, ⟨by first | decide | omega, by first | decide | omega⟩, fun _ h => h, ?_⟩
      rintro _ ⟨q, rfl, q0, q1⟩
      repeat walk_at "v"
      refine ⟨fun _ => ?_, fun _ => ?_⟩
      · repeat walk_at "v"
        exact ⟨none, fun x h => (by cases h), rfl⟩
      · repeat walk_at "v"
        exact ⟨some s, fun x h => (by cases h; omega), rfl⟩
    · rintro e ⟨s, hs, rfl⟩
      repeat walk_at "v"
      walk_at "c"
      repeat walk_at "v"
      walk_at "c"
      repeat walk_at "v"
      refine ⟨_, rfl, ⟨by first | decide | omega, by first | decide | omega⟩, fun _ h => h, ?_⟩
      rintro _ ⟨j, rfl, j0, j1⟩
      repeat walk_at "v"
      obtain ⟨d, hd, hdd⟩ := pick2k (a := .int 4) (b := .int g) j0 j1
      refine vo_ixL rfl hd ?_
      obtain ⟨m, rfl, m0, m1⟩ : ∃ m : Int, d = .int m ∧ 3 ≤ m ∧ m ≤ 40 := by
        rcases hdd with rfl | rfl
        · exact ⟨_, rfl, by decide, by decide⟩
        · exact ⟨_, rfl, g0, g1⟩
      repeat walk_at "v"
      refine ⟨_, rfl, ⟨by first | decide | omega, by first | decide | omega⟩, fun _ h => h, ?_⟩
      rintro _ ⟨kp, rfl, kp0, kp1⟩
      repeat walk_at "v"
      walk_at "c"
      repeat walk_at "v"
      refine ⟨_, rfl, ⟨by first | decide | omega, by first | decide | omega⟩, fun _ h => h, ?_⟩
      rintro _ ⟨pr, rfl, pr0, pr1⟩
      repeat walk_at "v"
      refine ⟨_, rfl, by rw [List.length_map, hl]; omega, ?_⟩
      refine ⟨ts ++ [(s, pr, kp)], _, _, _, by rw [List.map_append]; rfl, by rw [List.length_append, hl]; rfl, fun t ht => ?_⟩
      rcases List.mem_append.mp ht with ht | ht
      · exact hok t ht
      · cases List.mem_singleton.mp ht
        exact ⟨hs, pr0, by show pr < 40; omega, kp0, by show kp < 40; omega⟩
  · rintro e ⟨ts, x, y, z, rfl, hl, hok⟩
    repeat walk_at "v"
    rw [rangeD_len] at hl
    exact ⟨ts, rfl, by omega, hok⟩

end
/-! ### _law_amount -/
abbrev s__law_amount : Stmt := topS 11
abbrev N__law_amount : List Str := ["state", "way"]
theorem sc__law_amount : FnScope N__law_amount ["state"] (defScope s__law_amount) := ⟨rfl, rfl, rfl, by decide +kernel, rfl, by decide +kernel, by decide +kernel⟩
section
variable {P : Program} {w : World} {K : PySem.W.Frag} {mg : Str → Option Value} {base : Heap}
abbrev sp__law_amount (K : PySem.W.Frag) : Sp := SpA K Gd false (fun _ : Unit => [.st]) (fun _ => True) (fun _ d => ∃ n, d = .int n ∧ 0 ≤ n ∧ n < 10 ^ 41) noRs
theorem c__law_amount (Dn : Dfn K mg "_law_amount" s__law_amount ["state"]) (Z : Glb K mg) (C__law_next : Cal P w K mg base 1 "_law_next" (sp__law_next K) []) : Cal P w K mg base 2 "_law_amount" (sp__law_amount K) [] := by
  obtain ⟨f, fd, F, hm, hb⟩ := Dn.ex
  refine ⟨f, fd, ["state"], [], ?_, hm, F.kp, hb, .nil⟩
  refine F.ok sc__law_amount (fun vs H Q E h => spA_len (fun _ => rfl) h) (fun cdv A outer s H vs Q E hr h => ?_)
  refine ⟨_, (pss_cons (ps_set (i := 1) sc__law_amount.nd rfl (.inl rfl) (pe_c C__law_next hr (by decide) (by rfl) (pa_cons (pv 0) (pa_cons pe_int pa_nil))))
    (pss_cons (ps_if (pt_cmpR op_eq (pv 1) pe_int (nomark _))
    (pss_one (ps_ret pe_int))
    pss_nil)
    (pss_cons (ps_if ((pw_and (pt_cmpR op_eq (pv 1) pe_int (nomark _)) (pw_and1 (pt_cmpR op_eq (pe_c C__law_next hr (by decide) (by rfl) (pa_cons (pv 0) (pa_cons pe_int pa_nil))) pe_int (nomark _))))).pt
    (pss_one (ps_ret (pe_op op_add (pe_op (op_mul.or op_mulW) (pe_c C__law_next hr (by decide) (by rfl) (pa_cons (pv 0) (pa_cons (pe_op op_pow pe_int pe_int) pa_nil))) (pe_op op_pow pe_int pe_int)) (pe_c C__law_next hr (by decide) (by rfl) (pa_cons (pv 0) (pa_cons (pe_op op_pow pe_int pe_int) pa_nil))))))
    pss_nil)
    (pss_one (ps_ret (pe_c C__law_next hr (by decide) (by rfl) (pa_cons (pv 0) (pa_cons pe_int pa_nil)))))))), ?_⟩
  try dsimp only [cxOf, Cx.nox, Cx.wish]
  refine run_def (N := N__law_amount) (fun _ => Nat.le_of_ble_eq_true rfl) (env0 := fun _ => [.p .st, .u]) (fun _ => rfl) (fun B _ _ L => ?_) h
  have e9 : (10 : Int) ^ (9 : Int).toNat = 1000000000 := by decide
  have e31 : (10 : Int) ^ (31 : Int).toNat = 10 ^ 31 := by decide
  repeat walk_at "v"
  walk_at "c"
  repeat walk_at "v"
  refine ⟨_, rfl, ⟨by first | decide | omega, by first | decide | omega⟩, fun _ h => h, ?_⟩
  rintro _ ⟨way, rfl, w0, w1⟩
  repeat walk_at "v"
  refine vs_if ?_
  repeat walk_at "v"
  refine ⟨fun _ => ?_, fun _ => ?_⟩
  · repeat walk_at "v"
    exact ⟨rfl, 0, rfl, by decide, by decide⟩
  · repeat walk_at "v"
    refine vs_if ?_
    repeat walk_at "v"
    refine ⟨fun _ => ?_, fun _ => ?_⟩
    · repeat walk_at "v"
      walk_at "c"
      repeat walk_at "v"
      refine ⟨_, rfl, ⟨by first | decide | omega, by first | decide | omega⟩, fun _ h => h, ?_⟩
      rintro _ ⟨k, rfl, k0, k1⟩
      repeat walk_at "v"
      refine ⟨fun _ => ?_, fun _ => ?_⟩
      · repeat walk_at "v"
        walk_at "c"
        repeat walk_at "v"
        refine ⟨_, rfl, ⟨by first | decide | omega, by first | decide | omega⟩, fun _ h => h, ?_⟩
        rintro _ ⟨a, rfl, a0, a1⟩
        repeat walk_at "v"
        walk_at "c"
        repeat walk_at "v"
        refine ⟨_, rfl, ⟨by first | decide | omega, by first | decide | omega⟩, fun _ h => h, ?_⟩
        rintro _ ⟨b, rfl, b0, b1⟩
        repeat walk_at "v"
        rw [e9] at a1 b1
        rw [e31]
        exact ⟨rfl, _, rfl, by omega, by omega⟩
      · repeat walk_at "v"
        walk_at "c"
        repeat walk_at "v"
        refine ⟨_, rfl, ⟨by first | decide | omega, by first | decide | omega⟩, fun _ h => h, ?_⟩
        rintro _ ⟨a, rfl, a0, a1⟩
        repeat walk_at "v"
        exact ⟨rfl, _, rfl, a0, by omega⟩
    · refine and_f rfl ?_
      repeat walk_at "v"
      walk_at "c"
      repeat walk_at "v"
      refine ⟨_, rfl, ⟨by first | decide | omega, by first | decide | omega⟩, fun _ h => h, ?_⟩
      rintro _ ⟨a, rfl, a0, a1⟩
      repeat walk_at "v"
      exact ⟨rfl, _, rfl, a0, by omega⟩

end
/-! ### _law_wanted -/
abbrev s__law_wanted : Stmt := topS 13
abbrev N__law_wanted : List Str := ["state", "terms", "wanted", "day", "term"]
theorem sc__law_wanted : FnScope N__law_wanted ["state", "terms"] (defScope s__law_wanted) := ⟨rfl, rfl, rfl, by decide +kernel, rfl, by decide +kernel, by decide +kernel⟩
theorem all_none {ts : List Tm} {i : Nat} : ((ts.take (i + 1)).map fun t => t.1.isNone).all id = true ↔ ¬ ∃ (j : Nat) (t : Tm), j ≤ i ∧ ts[j]? = some t ∧ t.1 ≠ none := by
  rw [List.all_eq_true]
  constructor
  · rintro h ⟨j, t, hj, ht, hn⟩
    have hm : t ∈ ts.take (i + 1) := by
      refine List.mem_of_getElem? (i := j) ?_
      rw [List.getElem?_take, if_pos (by omega)]
      exact ht
    have := h t.1.isNone (List.mem_map_of_mem hm)
    cases e : t.1 with
    | none => exact hn e
    | some x => rw [e] at this; cases this
  · intro h b hb
    obtain ⟨t, ht, rfl⟩ := List.mem_map.mp hb
    obtain ⟨j, hj⟩ := List.getElem?_of_mem ht
    rw [List.getElem?_take] at hj
    by_cases hji : j < i + 1
    · rw [if_pos hji] at hj
      cases e : t.1 with
      | none => rfl
      | some x => exact absurd ⟨j, t, by omega, hj, by rw [e]; simp⟩ h
    · rw [if_neg hji] at hj
      cases hj
/-- what is wanted up to a day is served -/
def ServedTo (n : Nat) (ts : List Tm) (ws : List Int) : Prop := ∀ (i : Nat) (w : Int), i < n → ws[i]? = some w → w ≠ 0 → ∃ (j : Nat) (t : Tm), j ≤ i ∧ ts[j]? = some t ∧ t.1 ≠ none
section
variable {P : Program} {w : World} {K : PySem.W.Frag} {mg : Str → Option Value} {base : Heap}
abbrev sp__law_wanted (K : PySem.W.Frag) : Sp := SpA K Gd true (fun ts : List Tm => [.st, .lst (ts.map tmD)]) (fun ts => ts.length ≤ 100) (fun ts d => ∃ ws : List Int, d = .lst (ws.map D.int) ∧ ws.length = ts.length ∧ WantOk ws ∧ Served ts ws) noRs
theorem c__law_wanted (Dn : Dfn K mg "_law_wanted" s__law_wanted ["state", "terms"]) (Z : Glb K mg) (C__law_amount : Cal P w K mg base 2 "_law_amount" (sp__law_amount K) []) : Cal P w K mg base 3 "_law_wanted" (sp__law_wanted K) [] := by
  obtain ⟨f, fd, F, hm, hb⟩ := Dn.ex
  refine ⟨f, fd, ["state", "terms"], [], ?_, hm, F.kp, hb, .nil⟩
  refine F.ok sc__law_wanted (fun vs H Q E h => spA_len (fun _ => rfl) h) (fun cdv A outer s H vs Q E hr h => ?_)
  refine ⟨_, (pss_cons (ps_setLc (i := 2) (own := [("term", 4)]) rfl sc__law_wanted.nd rfl rfl (sw_true rfl rfl rfl (by decide +kernel)) (pi_list (pv 1)) (blkOk_by (N := N__law_wanted) (sc := defScope s__law_wanted) (by decide +kernel)) (fun _ _ _ _ _ => (pg_name (i := 4) sc__law_wanted.nd rfl (.inl rfl))) (fun _ _ _ _ _ => pts_nil) (fun _ _ _ _ _ => (pe_c C__law_amount hr (by decide) (by rfl) (pa_cons (pv 0) pa_nil))))
    (pss_cons (ps_for PassesOwn.never rfl (pi_range1 (by rfl) Z.b_range (pa_cons (pe_callB call_len_seq (by rfl) Z.b_len PySem.boot_len (pa_cons (pv 1) pa_nil)) pa_nil)) (pg_name (i := 3) sc__law_wanted.nd rfl (.inl rfl))
    (pss_one (ps_if (pt_val (pe_callB (cr_all rfl) (by rfl) Z.b_all (by decide +kernel) (pa_cons (pe_lc (own := [("term", 4)]) rfl sc__law_wanted.nd (pi_list (pe_slice sl_list (pv 1) po_none (po_some (pe_op op_add (pv 3) pe_int)))) (blkOk_by (N := N__law_wanted) (sc := defScope s__law_wanted) (by decide +kernel)) (fun _ _ _ _ _ => (pg_name (i := 4) sc__law_wanted.nd rfl (.inl rfl))) (fun _ _ _ _ _ => pts_nil) (fun _ _ _ _ _ => (pe_cmpR op_isN (pe_ix (show IxR _ (rIxT K) from ix_tup) (pv 4) pe_int (fun _ _ => rfl)) pe_non (nomark _)))) pa_nil)))
      (pss_one (ps_asg pe_int (pg_sub (pv 2) (pv 3) set_list)))
      pss_nil)))
    (pss_one (ps_ret (pv 2))))), ?_⟩
  try dsimp only [cxOf, Cx.nox, Cx.wish]
  refine run_def (N := N__law_wanted) (fun _ => Nat.le_of_ble_eq_true rfl) (env0 := fun ts : List Tm => [.p .st, .p (.lst (ts.map tmD)), .u, .u, .u]) (fun _ => rfl) (fun B ts hp L => ?_) h
  repeat walk_at "v"
  refine ve_lc (hu1 rfl) (only_name (by decide)) (vi_l ?_)
  repeat walk_at "v"
  refine ⟨_, rfl, by rw [List.length_map]; omega, fun i acc => ∃ ws : List Int, acc = ws.map D.int ∧ ws.length = i ∧ WantOk ws, ⟨[], rfl, rfl, ⟨fun w h => by cases h⟩⟩, ?_, ?_⟩
  · rintro p i d acc hi ⟨ws, rfl, hl, hw⟩
    repeat walk_at "v"
    refine ⟨.set .refl (by decide), ?_⟩
    repeat walk_at "v"
    refine and_t rfl ?_
    repeat walk_at "v"
    walk_at "c"
    repeat walk_at "v"
    refine ⟨(), rfl, trivial, fun _ h => h, ?_⟩
    rintro _ ⟨n, rfl, n0, n1⟩
    repeat walk_at "v"
    refine ⟨_, rfl, ws ++ [n], by rw [List.map_append]; rfl, by rw [List.length_append, hl]; rfl, ⟨fun w hm => ?_⟩⟩
    rcases List.mem_append.mp hm with hm | hm
    · exact hw.b w hm
    · cases List.mem_singleton.mp hm
      exact ⟨n0, n1⟩
  · rintro acc ⟨ws, rfl, hl, hw⟩
    rw [List.length_map] at hl
    repeat walk_at "v"
    refine vs_for (vi_range1 ?_)
    repeat walk_at "v"
    refine ⟨_, rfl, ⟨by omega, by rw [List.length_map]; omega⟩, fun i e => ∃ ws x, e = [.p .st, .p (.lst (ts.map tmD)), .mu (.lst (ws.map D.int)), x, .u] ∧ ws.length = ts.length ∧ WantOk ws ∧ ServedTo i ts ws, ⟨ws, .u, rfl, hl, hw, fun _ _ h => absurd h (Nat.not_lt_zero _)⟩, ?_, ?_⟩
    · rintro i d e hi ⟨ws, x, rfl, hl, hw, hs⟩
      obtain ⟨hi2, rfl⟩ := rangeD_get hi
      have hi3 : i < ts.length := by simpa using hi2
      have ei : (0 + (i : Nat) : Int) = (i : Nat) := by omega
      rw [ei]
      repeat walk_at "v"
      refine vs_if ?_
      repeat walk_at "v"
      refine ve_lc (hu1 rfl) (only_name (by decide)) (vi_l ?_)
      repeat walk_at "v"
      rw [cutD_take tmD ts (by omega)]
      have e1 : ((i : Int) + 1).toNat = i + 1 := by omega
      rw [e1]
      refine ⟨_, rfl, by rw [List.length_map, List.length_take]; omega, fun j acc => acc = ((ts.take (i + 1)).take j).map fun t => D.bl t.1.isNone, rfl, ?_, ?_⟩
      · rintro p j d acc hj rfl
        obtain ⟨t, ht, rfl⟩ := map_get hj
        repeat walk_at "v"
        refine ⟨.set .refl (by decide), ?_⟩
        repeat walk_at "v"
        refine and_t rfl ?_
        repeat walk_at "v"
        refine vo_ixT (atI_nat (j := 0) rfl) ?_
        repeat walk_at "v"
        rw [oi_isN]
        refine ⟨_, rfl, ?_⟩
        show _ = List.map _ (List.take (j + 1) _)
        rw [take_one ht, List.map_append]
        rfl
      · rintro acc rfl
        rw [List.length_map, List.take_length]
        repeat walk_at "v"
        refine vc_all (bs := (ts.take (i + 1)).map fun t => t.1.isNone) (by rw [List.map_map]; rfl) ?_
        refine ⟨_, rfl, fun hb => ?_, fun hb => ?_⟩
        · repeat walk_at "v"
          refine vg_subL rfl ?_
          repeat walk_at "v"
          refine ⟨_, _, rfl, ixN_nat (by rw [List.length_map, hl]; exact hi3), ws.set i 0, _, by rw [List.map_set]; rfl, by rw [List.length_set, hl], ⟨fun w hm => ?_⟩, fun j w hj hg hn => ?_⟩
          · rcases List.mem_or_eq_of_mem_set hm with hm | rfl
            · exact hw.b w hm
            · exact ⟨by decide, by decide⟩
          · by_cases hji : i = j
            · subst hji
              rw [List.getElem?_set_self (by omega)] at hg
              cases hg
              exact absurd rfl hn
            · rw [List.getElem?_set_ne hji] at hg
              exact hs j w (by omega) hg hn
        · repeat walk_at "v"
          refine ⟨ws, _, rfl, hl, hw, fun j w hj hg hn => ?_⟩
          by_cases hji : j < i
          · exact hs j w hji hg hn
          · have : j = i := by omega
            subst this
            apply Classical.byContradiction
            intro hc
            rw [all_none.mpr hc] at hb
            cases hb
    · rintro e ⟨ws, x, rfl, hl, hw, hs⟩
      repeat walk_at "v"
      refine ⟨ws, rfl, hl, hw, fun i w hg hn => hs i w ?_ hg hn⟩
      have := lt_of_get hg
      rw [rangeD_len]
      simp
      omega

end
/-! ### _law_serving -/
abbrev s__law_serving : Stmt := topS 14
abbrev N__law_serving : List Str := ["wanted", "terms", "start", "day", "setup", "price", "keep"]
theorem sc__law_serving : FnScope N__law_serving ["wanted", "terms", "start", "day"] (defScope s__law_serving) := ⟨rfl, rfl, rfl, by decide +kernel, rfl, by decide +kernel, by decide +kernel⟩
theorem slice_keeps (ts : List Tm) {s d : Nat} (h : s ≤ d) : (((ts.take d).drop s).map fun t => t.2.2).sum = keepSum ts d - keepSum ts s := by
  have e : ts.take d = ts.take s ++ (ts.take d).drop s := by
    have := List.take_append_drop s (ts.take d)
    rw [List.take_take, Nat.min_eq_left h] at this
    exact this.symm
  have e2 : keepSum ts d = keepSum ts s + (((ts.take d).drop s).map fun t => t.2.2).sum := by
    unfold keepSum
    rw [e, List.map_append, List.sum_append]
    congr 2
    rw [← e]
  omega
section
variable {P : Program} {w : World} {K : PySem.W.Frag} {mg : Str → Option Value} {base : Heap}
abbrev sp__law_serving (K : PySem.W.Frag) : Sp := SpA K Gd false (fun x : List Int × List Tm × Nat × Nat => [.lst (x.1.map D.int), .lst (x.2.1.map tmD), .int x.2.2.1, .int x.2.2.2])
  (fun x => x.2.2.1 ≤ x.2.2.2 ∧ x.2.2.2 < x.1.length ∧ x.2.1.length = x.1.length ∧ x.1.length ≤ 1000 ∧ ∀ t ∈ x.2.1, TermOk t) (fun x d => d = .int (srv x.1 x.2.1 x.2.2.1 x.2.2.2)) noRs
theorem c__law_serving (Dn : Dfn K mg "_law_serving" s__law_serving ["wanted", "terms", "start", "day"]) (Z : Glb K mg)  : Cal P w K mg base 1 "_law_serving" (sp__law_serving K) [] := by
  obtain ⟨f, fd, F, hm, hb⟩ := Dn.ex
  refine ⟨f, fd, ["wanted", "terms", "start", "day"], [], ?_, hm, F.kp, hb, .nil⟩
  refine F.ok sc__law_serving (fun vs H Q E h => spA_len (fun _ => rfl) h) (fun cdv A outer s H vs Q E hr h => ?_)
  refine ⟨_, (pss_one (ps_ret (pe_op (op_mul.or op_mulW) (pe_ix ix_list (pv 0) (pv 3) (fun _ _ => rfl)) (pe_op op_add (pe_ix ix_tup (pe_ix ix_list (pv 1) (pv 2) (fun _ _ => rfl)) pe_int (fun _ _ => rfl)) (pe_callB (cr_sum rfl) (by rfl) Z.b_sum (by decide +kernel) (pa_cons (pe_lc (own := [("setup", 4), ("price", 5), ("keep", 6)]) rfl sc__law_serving.nd (pi_list (pe_slice sl_list (pv 1) (po_some (pv 2)) (po_some (pv 3)))) (blkOk_by (N := N__law_serving) (sc := defScope s__law_serving) (by decide +kernel)) (fun _ _ _ _ _ => (show PG _ _ (gTup K 3 _) from pg_tup rfl (pgs_cons (pg_name (i := 4) sc__law_serving.nd rfl (.inl rfl)) (pgs_cons (pg_name (i := 5) sc__law_serving.nd rfl (.inl rfl)) (pgs_cons (pg_name (i := 6) sc__law_serving.nd rfl (.inl rfl)) pgs_nil))))) (fun _ _ _ _ _ => pts_nil) (fun _ _ _ _ _ => (pv 6))) pa_nil)))))), ?_⟩
  try dsimp only [cxOf, Cx.nox, Cx.wish]
  refine run_def (N := N__law_serving) (fun _ => Nat.le_of_ble_eq_true rfl) (env0 := fun x : List Int × List Tm × Nat × Nat => [.p (.lst (x.1.map D.int)), .p (.lst (x.2.1.map tmD)), .p (.int x.2.2.1), .p (.int x.2.2.2), .u, .u, .u]) (fun _ => rfl) (fun B x hp L => ?_) h
  obtain ⟨ws, ts, s, d⟩ := x
  dsimp only
  obtain ⟨hsd, ld, hl, ln, tok⟩ := hp
  simp only at hsd ld hl ln tok
  obtain ⟨w, hw⟩ : ∃ w, ws[d]? = some w := ⟨_, List.getElem?_eq_getElem ld⟩
  obtain ⟨⟨st, p, k⟩, ht⟩ : ∃ t, ts[s]? = some t := ⟨_, List.getElem?_eq_getElem (by omega)⟩
  have htm : atI (ts.map tmD) (s : Int) = some (.tup [oi st, .int p, .int k]) := atI_get tmD ht
  have hk1 := keepSum_nn tok s
  have hk2 := keepSum_nn tok d
  have hk3 := keepSum_mono tok hsd
  have t1 := (tok _ (List.mem_of_getElem? ht)).p0
  have t2 := (tok _ (List.mem_of_getElem? ht)).p1
  simp only at t1 t2
  repeat walk_at "v"
  refine vo_ixL rfl (atI_get D.int hw) ?_
  repeat walk_at "v"
  refine vo_ixL rfl htm ?_
  repeat walk_at "v"
  refine vo_ixT (atI_nat (j := 1) rfl) ?_
  repeat walk_at "v"
  refine ve_lc (hu3 rfl rfl rfl) (only_tup (only_cons (only_name (by decide)) (only_cons (only_name (by decide)) (only_cons (only_name (by decide)) only_nil)))) (vi_l ?_)
  repeat walk_at "v"
  rw [cutD_mid tmD ts (by omega) (by omega), Int.toNat_natCast, Int.toNat_natCast]
  refine ⟨_, rfl, by rw [List.length_map, List.length_drop, List.length_take]; omega, fun j acc => acc = ((((ts.take d).drop s).take j).map fun t => t.2.2).map D.int, rfl, ?_, ?_⟩
  · rintro q j e acc hj rfl
    obtain ⟨⟨st', p', k'⟩, ht', ed⟩ := map_get hj
    have ed2 : e = .tup [oi st', .int p', .int k'] := ed
    subst ed2
    repeat walk_at "v"
    refine ⟨.set (.set (.set .refl (by decide)) (by decide)) (by decide), ?_⟩
    repeat walk_at "v"
    refine and_t rfl ?_
    repeat walk_at "v"
    refine ⟨_, rfl, ?_⟩
    show _ = List.map _ (List.map _ (List.take (j + 1) _))
    rw [take_one ht', List.map_append, List.map_append]
    rfl
  · rintro acc rfl
    rw [List.length_map, List.take_length]
    repeat walk_at "v"
    refine vc_sum rfl ?_
    rw [slice_keeps ts hsd]
    repeat walk_at "v"
    · refine ⟨rfl, ?_⟩
      show D.int _ = D.int (srv ws ts s d)
      unfold srv
      rw [getD_of hw, getD_of ht, Int.add_sub_assoc]

end
/-! ### _law_least -/
abbrev s__law_least : Stmt := topS 15
abbrev N__law_least : List Str := ["wanted", "terms", "least", "number", "some", "total", "day", "costs", "start"]
theorem sc__law_least : FnScope N__law_least ["wanted", "terms"] (defScope s__law_least) := ⟨rfl, rfl, rfl, by decide +kernel, rfl, by decide +kernel, by decide +kernel⟩
theorem bit_dec (i d : Nat) : decide (Builtin.bitAnd ((i : Int) / 2 ^ d) 1 = 1) = decide (i / 2 ^ d % 2 = 1) := by
  rw [PyProof.Rows.bitAnd_m1]
  have e : ((i : Int) / 2 ^ d) % 2 = ((i / 2 ^ d % 2 : Nat) : Int) := by
    rw [Int.natCast_emod, Int.natCast_ediv, Int.natCast_pow]
    rfl
  rw [e]
  by_cases h : i / 2 ^ d % 2 = 1
  · rw [decide_eq_true h, decide_eq_true (by omega)]
  · rw [decide_eq_false h, decide_eq_false (by omega)]
/-- the least of the choices below a number -/
structure LeastTo (ws : List Int) (ts : List Tm) (N : Nat) (r : Option Int) : Prop where
  low : ∀ num, num < N → OpenS ts (subs num ws.length) → ∃ t, TotR ws ts (subs num ws.length) ws.length t ∧ ∀ a, t = some a → ∃ l, r = some l ∧ l ≤ a
  got : ∀ l, r = some l → ∃ num, num < N ∧ OpenS ts (subs num ws.length) ∧ TotR ws ts (subs num ws.length) ws.length (some l)
theorem LeastTo.skip {ws : List Int} {ts : List Tm} {N : Nat} {r : Option Int} (h : LeastTo ws ts N r) (hn : ¬ OpenS ts (subs N ws.length)) : LeastTo ws ts (N + 1) r := ⟨fun num hl ho => by
    by_cases e : num = N
    · rw [e] at ho
      exact absurd ho hn
    · exact h.low num (by omega) ho, fun l hl => by
    obtain ⟨num, a, b⟩ := h.got l hl
    exact ⟨num, by omega, b⟩⟩
theorem LeastTo.keep {ws : List Int} {ts : List Tm} {N : Nat} {r t : Option Int} (h : LeastTo ws ts N r) (ht : TotR ws ts (subs N ws.length) ws.length t) (hk : ∀ a, t = some a → ∃ l, r = some l ∧ l ≤ a) : LeastTo ws ts (N + 1) r := ⟨fun num hl ho => by
    by_cases e : num = N
    · subst e
      exact ⟨t, ht, hk⟩
    · exact h.low num (by omega) ho, fun l hl => by
    obtain ⟨num, a, b⟩ := h.got l hl
    exact ⟨num, by omega, b⟩⟩
theorem LeastTo.take {ws : List Int} {ts : List Tm} {N : Nat} {r : Option Int} {a : Int} (h : LeastTo ws ts N r) (ho : OpenS ts (subs N ws.length)) (ht : TotR ws ts (subs N ws.length) ws.length (some a)) (hk : ∀ l, r = some l → a < l) : LeastTo ws ts (N + 1) (some a) := ⟨fun num hl ho => by
    by_cases e : num = N
    · subst e
      exact ⟨some a, ht, fun b hb => by cases hb; exact ⟨a, rfl, Int.le_refl _⟩⟩
    · obtain ⟨t, h1, h2⟩ := h.low num (by omega) ho
      refine ⟨t, h1, fun b hb => ?_⟩
      obtain ⟨l, hl, hle⟩ := h2 b hb
      have := hk l hl
      exact ⟨a, rfl, by omega⟩, fun l hl => by
    cases hl
    exact ⟨N, Nat.lt_succ_self _, ho, ht⟩⟩
section
variable {P : Program} {w : World} {K : PySem.W.Frag} {mg : Str → Option Value} {base : Heap}
abbrev sp__law_least (K : PySem.W.Frag) : Sp := SpA K Gd false (fun x : List Int × List Tm => [.lst (x.1.map D.int), .lst (x.2.map tmD)]) (fun x => x.2.length = x.1.length ∧ x.1.length ≤ 6 ∧ ∀ t ∈ x.2, TermOk t)
  (fun x d => ∃ r, d = oi r ∧ LeastR x.1 x.2 (2 ^ x.1.length) r) noRs
theorem c__law_least (Dn : Dfn K mg "_law_least" s__law_least ["wanted", "terms"]) (Z : Glb K mg) (C__law_serving : Cal P w K mg base 1 "_law_serving" (sp__law_serving K) []) : Cal P w K mg base 2 "_law_least" (sp__law_least K) [] := by
  obtain ⟨f, fd, F, hm, hb⟩ := Dn.ex
  refine ⟨f, fd, ["wanted", "terms"], [], ?_, hm, F.kp, hb, .nil⟩
  refine F.ok sc__law_least (fun vs H Q E h => spA_len (fun _ => rfl) h) (fun cdv A outer s H vs Q E hr h => ?_)
  refine ⟨_, (pss_cons (ps_set (i := 2) sc__law_least.nd rfl (.inl rfl) pe_non)
    (pss_cons (ps_for PassesOwn.never rfl (pi_range1 (by rfl) Z.b_range (pa_cons (pe_op op_shl pe_int (pe_callB call_len_seq (by rfl) Z.b_len PySem.boot_len (pa_cons (pv 0) pa_nil))) pa_nil)) (pg_name (i := 3) sc__law_least.nd rfl (.inr rfl))
    (pss_cons (ps_setLc (i := 4) (own := [("day", 6)]) rfl sc__law_least.nd rfl rfl (sw_true rfl rfl rfl (by decide +kernel)) (pi_range1 (by rfl) Z.b_range (pa_cons (pe_callB call_len_seq (by rfl) Z.b_len PySem.boot_len (pa_cons (pv 0) pa_nil)) pa_nil)) (blkOk_by (N := N__law_least) (sc := defScope s__law_least) (by decide +kernel)) (fun _ _ _ _ _ => (pg_name (i := 6) sc__law_least.nd rfl (.inl rfl))) (fun _ _ _ _ _ => (pts_one (pt_cmpR op_eq (pe_op op_and (pe_op op_shr (pv 3) (pv 6)) pe_int) pe_int (nomark _)))) (fun _ _ _ _ _ => (pv 6)))
      (pss_one (ps_if (pt_val (pe_callB (cr_all rfl) (by rfl) Z.b_all (by decide +kernel) (pa_cons (pe_lc (own := [("day", 6)]) rfl sc__law_least.nd (pi_list (pv 4)) (blkOk_by (N := N__law_least) (sc := defScope s__law_least) (by decide +kernel)) (fun _ _ _ _ _ => (pg_name (i := 6) sc__law_least.nd rfl (.inl rfl))) (fun _ _ _ _ _ => pts_nil) (fun _ _ _ _ _ => (pe_cmpR op_notN (pe_ix (show IxR _ (rIxT K) from ix_tup) (pe_ix (show IxR _ (rIxL K) from ix_list) (pv 1) (pv 6) (fun _ _ => rfl)) pe_int (fun _ _ => rfl)) pe_non (nomark _)))) pa_nil)))
      (pss_cons (ps_set (i := 5) sc__law_least.nd rfl (.inl rfl) (pe_callB (cr_sum rfl) (by rfl) Z.b_sum (by decide +kernel) (pa_cons (pe_lc (own := [("day", 6)]) rfl sc__law_least.nd (pi_list (pv 4)) (blkOk_by (N := N__law_least) (sc := defScope s__law_least) (by decide +kernel)) (fun _ _ _ _ _ => (pg_name (i := 6) sc__law_least.nd rfl (.inl rfl))) (fun _ _ _ _ _ => pts_nil) (fun _ _ _ _ _ => (pe_ix (show IxR _ (rIxT K) from ix_tup) (pe_ix (show IxR _ (rIxL K) from ix_list) (pv 1) (pv 6) (fun _ _ => rfl)) pe_int (fun _ _ => rfl)))) pa_nil)))
        (pss_cons (ps_for PassesOwn.never rfl (pi_range1 (by rfl) Z.b_range (pa_cons (pe_callB call_len_seq (by rfl) Z.b_len PySem.boot_len (pa_cons (pv 0) pa_nil)) pa_nil)) (pg_name (i := 6) sc__law_least.nd rfl (.inr rfl))
        (pss_cons (ps_setLc (i := 7) (own := [("start", 8)]) rfl sc__law_least.nd rfl rfl (sw_true rfl rfl rfl (by decide +kernel)) (pi_list (pv 4)) (blkOk_by (N := N__law_least) (sc := defScope s__law_least) (by decide +kernel)) (fun _ _ _ _ _ => (pg_name (i := 8) sc__law_least.nd rfl (.inl rfl))) (fun _ _ _ _ _ => (pts_one (pt_cmpR op_le (pv 8) (pv 6) (nomark _)))) (fun _ _ _ _ _ => (pe_c C__law_serving hr (by decide) (by rfl) (pa_cons (pv 0) (pa_cons (pv 1) (pa_cons (pv 8) (pa_cons (pv 6) pa_nil)))))))
          (pss_cons (ps_if ((pw_and (pt_cmpR op_gt (pe_ix ix_list (pv 0) (pv 6) (fun _ _ => rfl)) pe_int (nomark _)) (pw_and1 (pt_cmpR (op_eqD hr.units) (pv 7) (pe_lst pa_nil) (nomark _))))).pt
          (pss_one (ps_set (i := 5) sc__law_least.nd rfl (.inl rfl) pe_non))
          pss_nil)
          (pss_one (ps_if ((pw_and (pt_cmpR op_gt (pe_ix ix_list (pv 0) (pv 6) (fun _ _ => rfl)) pe_int (nomark _)) (pw_and1 (pt_cmpR op_notN (pv 5) pe_non (nomark _))))).pt
          (pss_one (ps_aug (i := 5) sc__law_least.nd rfl (.inl rfl) (pe_callB (cr_min rfl) (by rfl) Z.b_min (by decide +kernel) (pa_cons (pv 7) pa_nil)) ip_add))
          pss_nil)))))
        (pss_one (ps_if ((pw_and (pt_cmpR op_notN (pv 5) pe_non (nomark _)) (pw_and1 ((pw_or (pt_cmpR op_isN (pv 2) pe_non (nomark _)) (pw_or1 (pt_cmpR op_lt (pv 5) (pv 2) (nomark _))))).pt))).pt
        (pss_one (ps_set (i := 2) sc__law_least.nd rfl (.inl rfl) (pv 5)))
        pss_nil))))
      pss_nil))))
    (pss_one (ps_ret (pv 2))))), ?_⟩
  try dsimp only [cxOf, Cx.nox, Cx.wish]
  refine run_def (N := N__law_least) (fun _ => Nat.le_of_ble_eq_true rfl) (env0 := fun x : List Int × List Tm => [.p (.lst (x.1.map D.int)), .p (.lst (x.2.map tmD)), .u, .u, .u, .u, .u, .u, .u]) (fun _ => rfl) (fun B x hp L => ?_) h
  obtain ⟨ws, ts⟩ := x
  obtain ⟨hlt, ln, tok⟩ := hp
  dsimp only at hlt ln tok ⊢
  have hN : 2 ^ ws.length ≤ 64 := Nat.le_trans (Nat.pow_le_pow_right (by decide) ln) (by decide)
  repeat walk_at "v"
  refine vs_for (vi_range1 ?_)
  repeat walk_at "v"
  rw [List.length_map]
  refine vo_I (C := CPow) ⟨by omega, by omega, by decide⟩ ?_
  repeat walk_at "v"
  have eN : ((1 : Int) * 2 ^ ((ws.length : Int)).toNat) = ((2 ^ ws.length : Nat) : Int) := by
    rw [Int.toNat_natCast, Int.one_mul, Int.natCast_pow]
    rfl
  rw [eN]
  generalize 2 ^ ws.length = NN at hN eN ⊢
  refine ⟨_, rfl, ⟨by omega, by omega⟩, fun i e => ∃ (r : Option Int) (x3 x4 x5 x6 x7 x8 : Slot), e = [.p (.lst (ws.map D.int)), .p (.lst (ts.map tmD)), .p (oi r), x3, x4, x5, x6, x7, x8] ∧ LeastTo ws ts i r, ⟨none, .u, .u, .u, .u, .u, .u, rfl, ⟨fun num h => absurd h (Nat.not_lt_zero _), fun l h => (by cases h)⟩⟩, ?_, ?_⟩
  · rintro i d e hi ⟨r, x3, x4, x5, x6, x7, x8, rfl, hL⟩
    obtain ⟨hi2, rfl⟩ := rangeD_get hi
    have ei : (0 + (i : Nat) : Int) = (i : Nat) := by omega
    rw [ei]
    repeat walk_at "u"
    refine vs_forget 6 (vs_forget 8 ?_)
    repeat walk_at "v"
    refine ve_lc (hu1 rfl) (only_name (by decide)) (vi_range1 ?_)
    repeat walk_at "v"
    rw [List.length_map]
    refine ⟨_, rfl, ⟨by omega, by omega⟩, by rw [rangeD_len]; omega, fun j acc => acc = (subs i j).map fun s : Nat => D.int (s : Int), rfl, ?_, ?_⟩
    · rintro q j d acc hj rfl
      obtain ⟨hj2, rfl⟩ := rangeD_get hj
      have ej : (0 + (j : Nat) : Int) = (j : Nat) := by omega
      rw [ej]
      repeat walk_at "v"
      refine ⟨.set .refl (by decide), ?_⟩
      repeat walk_at "v"
      refine vo_I (C := fun _ j => 0 ≤ j) (by omega) ?_
      repeat walk_at "v"
      rw [Int.toNat_natCast, bit_dec]
      have hs : subs i (j + 1) = if i / 2 ^ j % 2 = 1 then subs i j ++ [j] else subs i j := rfl
      refine ⟨fun hb => ?_, fun hb => ?_⟩
      · repeat walk_at "v"
        refine ⟨_, rfl, ?_⟩
        show _ = List.map _ (subs i (j + 1))
        rw [hs, if_pos (of_decide_eq_true hb), List.map_append]
        rfl
      · show _ = List.map _ (subs i (j + 1))
        rw [hs, if_neg (of_decide_eq_false hb)]
    · rintro acc rfl
      have el : (rangeD 0 ((ws.length : Nat) : Int).toNat).length = ws.length := by rw [rangeD_len, Int.toNat_natCast]
      rw [el]
      have hsl : ∀ s ∈ subs i ws.length, s < ws.length := fun s hs => subs_lt hs
      have hsn := subs_len i ws.length
      generalize hS : subs i ws.length = S at hsl hsn
      have tmOf : ∀ s ∈ S, ∃ so p k, ts[s]? = some (so, p, k) ∧ (tmAt ts s).1 = so ∧ setupOf ts s = so.getD 0 := fun s hs => by
        obtain ⟨⟨so, p, k⟩, ht⟩ : ∃ t, ts[s]? = some t := ⟨_, List.getElem?_eq_getElem (by have := hsl s hs; omega)⟩
        refine ⟨so, p, k, ht, ?_, ?_⟩
        · unfold tmAt
          rw [getD_of ht]
        · unfold setupOf
          rw [getD_of ht]
      repeat walk_at "u"
      refine vs_freeze 4 rfl ?_
      refine vs_if ?_
      repeat walk_at "v"
      refine ve_lc (hu1 rfl) (only_name (by decide)) (vi_l ?_)
      repeat walk_at "v"
      refine ⟨_, rfl, by rw [List.length_map]; omega, fun j acc => acc = ((S.take j).map fun s => (tmAt ts s).1.isSome).map D.bl, rfl, ?_, ?_⟩
      · rintro q j d acc hj rfl
        obtain ⟨s, hs, rfl⟩ := map_get hj
        obtain ⟨so, p, k, ht, e1, _⟩ := tmOf s (List.mem_of_getElem? hs)
        have htm : atI (ts.map tmD) (s : Int) = some (.tup [oi so, .int p, .int k]) := atI_get tmD ht
        repeat walk_at "v"
        refine ⟨.set .refl (by decide), ?_⟩
        repeat walk_at "v"
        refine and_t rfl ?_
        repeat walk_at "v"
        refine vo_ixL rfl htm ?_
        repeat walk_at "v"
        refine vo_ixT (atI_nat (j := 0) rfl) ?_
        repeat walk_at "v"
        refine ⟨_, rfl, ?_⟩
        show _ = List.map _ (List.map _ (List.take (j + 1) _))
        rw [take_one hs, List.map_append, List.map_append, oi_isN]
        congr 1
        show _ = [D.bl (tmAt ts s).1.isSome]
        rw [e1]
        cases so <;> rfl
      · rintro acc rfl
        rw [List.length_map, List.take_length]
        repeat walk_at "v"
        refine vc_all rfl ?_
        have hall : (S.map fun s => (tmAt ts s).1.isSome).all id = true ↔ OpenS ts S := by
          rw [List.all_eq_true]
          constructor
          · intro h s hs
            exact h _ (List.mem_map_of_mem hs)
          · intro h b hb
            obtain ⟨s, hs, rfl⟩ := List.mem_map.mp hb
            exact h s hs
        refine ⟨_, rfl, fun hb => ?_, fun hb => ?_⟩
        · have hop := hall.mp hb
          repeat walk_at "v"
          refine ve_lc (hu1 rfl) (only_name (by decide)) (vi_l ?_)
          repeat walk_at "v"
          refine ⟨_, rfl, by rw [List.length_map]; omega, fun j acc => acc = ((S.take j).map (setupOf ts)).map D.int, rfl, ?_, ?_⟩
          · rintro q j d acc hj rfl
            obtain ⟨s, hs, rfl⟩ := map_get hj
            obtain ⟨so, p, k, ht, e1, e2⟩ := tmOf s (List.mem_of_getElem? hs)
            have htm : atI (ts.map tmD) (s : Int) = some (.tup [oi so, .int p, .int k]) := atI_get tmD ht
            repeat walk_at "v"
            refine ⟨.set .refl (by decide), ?_⟩
            repeat walk_at "v"
            refine and_t rfl ?_
            repeat walk_at "v"
            refine vo_ixL rfl htm ?_
            repeat walk_at "v"
            refine vo_ixT (atI_nat (j := 0) rfl) ?_
            refine fz_p ⟨_, rfl, ?_⟩
            show _ = List.map _ (List.map _ (List.take (j + 1) _))
            rw [take_one hs, List.map_append, List.map_append]
            congr 1
            show _ = [D.int (setupOf ts s)]
            rw [e2]
            have := hop s (List.mem_of_getElem? hs)
            rw [e1] at this
            cases so with
            | none => cases this
            | some x => rfl
          · rintro acc rfl
            rw [List.length_map, List.take_length]
            repeat walk_at "v"
            refine vc_sum rfl ?_
            repeat walk_at "v"
            refine vs_for (vi_range1 ?_)
            repeat walk_at "v"
            rw [List.length_map]
            refine ⟨_, rfl, ⟨by omega, by omega⟩, fun d e => ∃ (t : Option Int) (y6 y7 : Slot), e = [.p (.lst (ws.map D.int)), .p (.lst (ts.map tmD)), .p (oi r), .p (.int i), .p (.lst (S.map fun s : Nat => D.int (s : Int))), .p (oi t), y6, y7, .u] ∧ TotR ws ts S d t, ⟨some _, .u, x7, rfl, rfl⟩, ?_, ?_⟩
            · rintro d dd e hd ⟨t, y6, y7, rfl, hT⟩
              obtain ⟨hd2, rfl⟩ := rangeD_get hd
              have hd3 : d < ws.length := by simpa using hd2
              have ed : (0 + (d : Nat) : Int) = (d : Nat) := by omega
              rw [ed]
              obtain ⟨w, hw⟩ : ∃ w, ws[d]? = some w := ⟨_, List.getElem?_eq_getElem hd3⟩
              have hwd : ws.getD d 0 = w := getD_of hw
              repeat walk_at "v"
              refine ve_lc (hu1 rfl) (only_name (by decide)) (vi_l ?_)
              repeat walk_at "v"
              refine ⟨_, rfl, by rw [List.length_map]; omega, fun j acc => acc = (costsOf ws ts (S.take j) d).map D.int, rfl, ?_, ?_⟩
              · rintro q j dx acc hj rfl
                obtain ⟨s, hs, rfl⟩ := map_get hj
                have hsm := List.mem_of_getElem? hs
                have hc1 : costsOf ws ts (S.take (j + 1)) d = costsOf ws ts (S.take j) d ++ (if s ≤ d then [srv ws ts s d] else []) := by
                  unfold costsOf
                  rw [take_one hs, List.filter_append, List.map_append]
                  congr 1
                  by_cases q : s ≤ d
                  · rw [if_pos q]
                    simp [q]
                  · rw [if_neg q]
                    simp [q]
                repeat walk_at "v"
                refine ⟨.set .refl (by decide), ?_⟩
                repeat walk_at "v"
                refine ⟨fun hb => ?_, fun hb => ?_⟩
                · have hsd : s ≤ d := by have := of_decide_eq_true hb; omega
                  repeat walk_at "v"
                  walk_at "c"
                  repeat walk_at "v"
                  refine ⟨(ws, ts, s, d), rfl, ⟨hsd, hd3, hlt, by show ws.length ≤ 1000; omega, tok⟩, fun _ h => h, ?_⟩
                  rintro _ rfl
                  repeat walk_at "v"
                  refine ⟨_, rfl, ?_⟩
                  show _ = List.map _ (costsOf ws ts (S.take (j + 1)) d)
                  rw [hc1, if_pos hsd, List.map_append]
                  rfl
                · have hsd : ¬ s ≤ d := by have := of_decide_eq_false hb; omega
                  show _ = List.map _ (costsOf ws ts (S.take (j + 1)) d)
                  rw [hc1, if_neg hsd, List.append_nil]
              · rintro acc rfl
                rw [List.length_map, List.take_length]
                repeat walk_at "u"
                refine vs_freeze 7 rfl ?_
                generalize hC : costsOf ws ts S d = C
                have finish : ∀ t', ((0 < w → (C = [] → t' = none) ∧ (C ≠ [] → (t = none → t' = none) ∧ ∀ a, t = some a → ∃ m ∈ C, (∀ y ∈ C, m ≤ y) ∧ t' = some (a + m))) ∧ (¬ 0 < w → t' = t)) → TotR ws ts S (d + 1) t' := fun t' h => ⟨t, hT, by rw [hwd, hC]; exact h⟩
                by_cases hwp : 0 < w
                · cases C with
                  | nil =>
                    repeat walk_at "v"
                    refine vs_if ?_
                    repeat walk_at "v"
                    refine vo_ixL rfl (atI_get D.int hw) ?_
                    repeat walk_at "v"
                    refine and_t (decide_eq_true hwp) ?_
                    repeat walk_at "v"
                    refine vo_eqS (d := .lst []) rfl rfl rfl ?_
                    repeat walk_at "v"
                    refine and_t rfl ?_
                    repeat walk_at "v"
                    refine vs_if ?_
                    repeat walk_at "v"
                    refine vo_ixL rfl (atI_get D.int hw) ?_
                    repeat walk_at "v"
                    refine and_t (decide_eq_true hwp) ?_
                    repeat walk_at "v"
                    refine and_f rfl ?_
                    repeat walk_at "v"
                    exact ⟨none, _, _, rfl, finish none ⟨fun _ => ⟨fun _ => rfl, fun z => absurd rfl z⟩, fun z => absurd hwp z⟩⟩
                  | cons c C =>
                    repeat walk_at "v"
                    refine vs_if ?_
                    repeat walk_at "v"
                    refine vo_ixL rfl (atI_get D.int hw) ?_
                    repeat walk_at "v"
                    refine and_t (decide_eq_true hwp) ?_
                    repeat walk_at "v"
                    refine vo_eqN (d := .lst ((c :: C).map D.int)) (e := .lst (([] : List Int).map D.int)) rfl rfl (cmpN_ints _ _) (cmpN_ints _ _) ?_
                    rw [show D.eqv (.lst ((c :: C).map D.int)) (.lst (([] : List Int).map D.int)) = false by unfold D.eqv; rw [ints_eq]; simp]
                    repeat walk_at "v"
                    refine and_f rfl ?_
                    repeat walk_at "v"
                    refine vs_if ?_
                    repeat walk_at "v"
                    refine vo_ixL rfl (atI_get D.int hw) ?_
                    repeat walk_at "v"
                    refine and_t (decide_eq_true hwp) ?_
                    cases t with
                    | none =>
                      repeat walk_at "v"
                      refine and_f rfl ?_
                      repeat walk_at "v"
                      exact ⟨none, _, _, rfl, finish none ⟨fun _ => ⟨fun _ => rfl, fun _ => ⟨fun _ => rfl, fun a z => (by cases z)⟩⟩, fun z => absurd hwp z⟩⟩
                    | some a =>
                      repeat walk_at "v"
                      refine and_t rfl ?_
                      refine vs_aug (d := .int a) rfl ?_
                      repeat walk_at "v"
                      refine vc_minI rfl (by simp) fun m hm hle => ?_
                      repeat walk_at "v"
                      exact ⟨some (a + m), _, _, rfl, finish _ ⟨fun _ => ⟨fun z => (by cases z), fun _ => ⟨fun z => (by cases z), fun b hb => (by cases hb; exact ⟨m, hm, hle, rfl⟩)⟩⟩, fun z => absurd hwp z⟩⟩
                · repeat walk_at "v"
                  refine vs_if ?_
                  repeat walk_at "v"
                  refine vo_ixL rfl (atI_get D.int hw) ?_
                  repeat walk_at "v"
                  refine and_f (decide_eq_false hwp) ?_
                  refine and_f rfl ?_
                  repeat walk_at "v"
                  refine vs_if ?_
                  repeat walk_at "v"
                  refine vo_ixL rfl (atI_get D.int hw) ?_
                  repeat walk_at "v"
                  refine and_f (decide_eq_false hwp) ?_
                  refine and_f rfl ?_
                  repeat walk_at "v"
                  exact ⟨t, _, _, rfl, finish t ⟨fun z => absurd z hwp, fun _ => rfl⟩⟩
            · rintro e ⟨t, y6, y7, rfl, hT⟩
              rw [rangeD_len, Int.toNat_natCast, ← hS] at hT
              rw [← hS] at hop
              refine vs_if ?_
              cases t with
              | none =>
                repeat walk_at "v"
                refine and_f rfl ?_
                refine and_f rfl ?_
                repeat walk_at "v"
                exact ⟨r, _, _, _, _, _, _, rfl, hL.keep hT fun a z => (by cases z)⟩
              | some a =>
                repeat walk_at "v"
                refine and_t rfl ?_
                cases r with
                | none =>
                  repeat walk_at "v"
                  refine and_t rfl ?_
                  refine and_t rfl ?_
                  repeat walk_at "v"
                  exact ⟨some a, _, _, _, _, _, _, rfl, hL.take hop hT fun l z => (by cases z)⟩
                | some l =>
                  repeat walk_at "v"
                  refine and_f rfl ?_
                  repeat walk_at "v"
                  refine vo_B0 (i := a) (j := l) ?_
                  repeat walk_at "v"
                  refine ⟨fun hq => ?_, fun hq => ?_⟩
                  · repeat walk_at "v"
                    exact ⟨some a, _, _, _, _, _, _, rfl, hL.take hop hT fun l' z => (by cases z; exact of_decide_eq_true hq)⟩
                  · repeat walk_at "v"
                    exact ⟨some l, _, _, _, _, _, _, rfl, hL.keep hT fun b z => (by cases z; exact ⟨l, rfl, Int.not_lt.mp (of_decide_eq_false hq)⟩)⟩
        · repeat walk_at "v"
          exact ⟨r, _, _, _, _, _, _, rfl, hL.skip fun z => by rw [hS] at z; rw [hall.mpr z] at hb; cases hb⟩
  · rintro e ⟨r, x3, x4, x5, x6, x7, x8, rfl, hL⟩
    rw [rangeD_len, Int.toNat_natCast] at hL
    repeat walk_at "v"
    exact ⟨rfl, r, rfl, ⟨hL.low, hL.got⟩⟩

end
/-! ### kept_up_to -/
abbrev s_kept_up_to : Stmt := topS 4
abbrev N_kept_up_to : List Str := ["terms", "found", "total", "setup", "price", "keep"]
theorem sc_kept_up_to : FnScope N_kept_up_to ["terms"] (defScope s_kept_up_to) := ⟨rfl, rfl, rfl, by decide +kernel, rfl, by decide +kernel, by decide +kernel⟩
section
variable {P : Program} {w : World} {K : PySem.W.Frag} {mg : Str → Option Value} {base : Heap}
abbrev sp_kept_up_to (K : PySem.W.Frag) : Sp := SpA K Gd true (fun ts : List Tm => [.lst (ts.map tmD)]) (fun ts => ts.length ≤ 1000) (fun ts d => d = .lst ((kept ts).map D.int)) noRs
theorem c_kept_up_to (Dn : Dfn K mg "kept_up_to" s_kept_up_to ["terms"]) (Z : Glb K mg)  : Cal P w K mg base 1 "kept_up_to" (sp_kept_up_to K) [] := by
  obtain ⟨f, fd, F, hm, hb⟩ := Dn.ex
  refine ⟨f, fd, ["terms"], [], ?_, hm, F.kp, hb, .nil⟩
  refine F.ok sc_kept_up_to (fun vs H Q E h => spA_len (fun _ => rfl) h) (fun cdv A outer s H vs Q E hr h => ?_)
  refine ⟨_, (pss_cons (ps_set (i := 1) sc_kept_up_to.nd rfl (.inl rfl) (pe_lst pa_nil))
    (pss_cons (ps_set (i := 2) sc_kept_up_to.nd rfl (.inl rfl) pe_int)
    (pss_cons (ps_for PassesOwn.never rfl (pi_list (pv 0)) (pg_tup rfl (pgs_cons (pg_name (i := 3) sc_kept_up_to.nd rfl (.inl rfl)) (pgs_cons (pg_name (i := 4) sc_kept_up_to.nd rfl (.inl rfl)) (pgs_cons (pg_name (i := 5) sc_kept_up_to.nd rfl (.inl rfl)) pgs_nil))))
    (pss_cons (ps_expr (pe_bm PySem.F.plainAttrs_list PySem.F.slot_list_append PySem.F.type_list_append mt_append (pv 1) (pa_cons (pv 2) pa_nil)))
      (pss_one (ps_aug (i := 2) sc_kept_up_to.nd rfl (.inl rfl) (pv 5) ip_add))))
    (pss_one (ps_ret (pv 1)))))), ?_⟩
  try dsimp only [cxOf, Cx.nox, Cx.wish]
  refine run_def (N := N_kept_up_to) (fun _ => Nat.le_of_ble_eq_true rfl) (env0 := fun ts : List Tm => [.p (.lst (ts.map tmD)), .u, .u, .u, .u, .u]) (fun _ => rfl) (fun B ts hp L => ?_) h
  repeat walk_at "v"
  refine vs_for (vi_l ?_)
  repeat walk_at "v"
  refine ⟨_, rfl, fun i e => ∃ x y z, e = [.p (.lst (ts.map tmD)), .mu (.lst ((kept (ts.take i)).map D.int)), .p (.int (keepSum ts i)), x, y, z], ⟨.u, .u, .u, rfl⟩, ?_, ?_⟩
  · rintro i d e hi ⟨x, y, z, rfl⟩
    obtain ⟨⟨s, p, k⟩, ht, ed⟩ := map_get hi
    have ed2 : d = .tup [oi s, .int p, .int k] := ed
    subst ed2
    have hl := lt_of_get ht
    repeat walk_at "v"
    refine ⟨_, rfl, ?_, ?_⟩
    · rw [List.length_map]
      unfold kept
      rw [kpGo_len, List.length_take]
      omega
    repeat walk_at "v"
    refine ⟨.p (oi s), .p (.int p), .p (.int k), ?_⟩
    have e1 : kept (ts.take (i + 1)) = kept (ts.take i) ++ [keepSum ts i] := by
      unfold kept
      rw [take_one ht, kpGo_app, Int.zero_add]
      rfl
    have e2 : keepSum ts (i + 1) = keepSum ts i + k := by
      unfold keepSum
      rw [take_one ht, List.map_append, List.sum_append]
      simp
    rw [e1, e2, List.map_append]
    rfl
  · rintro e ⟨x, y, z, rfl⟩
    rw [List.length_map, List.take_length]
    repeat walk_at "v"
    rfl

end
/-! ### serving -/
abbrev s_serving : Stmt := topS 5
abbrev N_serving : List Str := ["wanted", "terms", "keeps", "start", "day"]
theorem sc_serving : FnScope N_serving ["wanted", "terms", "keeps", "start", "day"] (defScope s_serving) := ⟨rfl, rfl, rfl, by decide +kernel, rfl, by decide +kernel, by decide +kernel⟩
structure SrvOk (ws : List Int) (ts : List Tm) (s d : Nat) : Prop where
  ls : s < ts.length
  ld : d < ts.length
  lw : d < ws.length
  ln : ts.length ≤ 1000
  tok : ∀ t ∈ ts, TermOk t
section
variable {P : Program} {w : World} {K : PySem.W.Frag} {mg : Str → Option Value} {base : Heap}
abbrev sp_serving (K : PySem.W.Frag) : Sp := SpA K Gd false (fun x : List Int × List Tm × Nat × Nat => [.lst (x.1.map D.int), .lst (x.2.1.map tmD), .lst ((kept x.2.1).map D.int), .int x.2.2.1, .int x.2.2.2])
  (fun x => SrvOk x.1 x.2.1 x.2.2.1 x.2.2.2) (fun x d => d = .int (srv x.1 x.2.1 x.2.2.1 x.2.2.2)) noRs
theorem c_serving (Dn : Dfn K mg "serving" s_serving ["wanted", "terms", "keeps", "start", "day"]) (Z : Glb K mg)  : Cal P w K mg base 1 "serving" (sp_serving K) [] := by
  obtain ⟨f, fd, F, hm, hb⟩ := Dn.ex
  refine ⟨f, fd, ["wanted", "terms", "keeps", "start", "day"], [], ?_, hm, F.kp, hb, .nil⟩
  refine F.ok sc_serving (fun vs H Q E h => spA_len (fun _ => rfl) h) (fun cdv A outer s H vs Q E hr h => ?_)
  refine ⟨_, (pss_one (ps_ret (pe_op (op_mul.or op_mulW) (pe_ix ix_list (pv 0) (pv 4) (fun _ _ => rfl)) (pe_op op_sub (pe_op op_add (pe_ix ix_tup (pe_ix ix_list (pv 1) (pv 3) (fun _ _ => rfl)) pe_int (fun _ _ => rfl)) (pe_ix ix_list (pv 2) (pv 4) (fun _ _ => rfl))) (pe_ix ix_list (pv 2) (pv 3) (fun _ _ => rfl)))))), ?_⟩
  try dsimp only [cxOf, Cx.nox, Cx.wish]
  refine run_def (N := N_serving) (fun _ => Nat.le_of_ble_eq_true rfl) (env0 := fun x : List Int × List Tm × Nat × Nat => [.p (.lst (x.1.map D.int)), .p (.lst (x.2.1.map tmD)), .p (.lst ((kept x.2.1).map D.int)), .p (.int x.2.2.1), .p (.int x.2.2.2)]) (fun _ => rfl) (fun B x hp L => ?_) h
  obtain ⟨ws, ts, s, d⟩ := x
  dsimp only
  obtain ⟨ls, ld, lw, ln, tok⟩ := hp
  simp only at ls ld lw ln tok
  obtain ⟨w, hw⟩ : ∃ w, ws[d]? = some w := ⟨_, List.getElem?_eq_getElem lw⟩
  obtain ⟨⟨st, p, k⟩, ht⟩ : ∃ t, ts[s]? = some t := ⟨_, List.getElem?_eq_getElem ls⟩
  have htm : atI (ts.map tmD) (s : Int) = some (.tup [oi st, .int p, .int k]) := atI_get tmD ht
  have hk1 := keepSum_nn tok s
  have hk2 := keepSum_nn tok d
  have t1 := (tok _ (List.mem_of_getElem? ht)).p0
  have t2 := (tok _ (List.mem_of_getElem? ht)).p1
  simp only at t1 t2
  repeat walk_at "v"
  refine vo_ixL rfl (atI_get D.int hw) ?_
  repeat walk_at "v"
  refine vo_ixL rfl htm ?_
  repeat walk_at "v"
  refine vo_ixT (atI_nat (j := 1) rfl) ?_
  repeat walk_at "v"
  refine vo_ixL rfl (atI_get D.int (kept_get ld)) ?_
  repeat walk_at "v"
  refine vo_ixL rfl (atI_get D.int (kept_get ls)) ?_
  repeat walk_at "v"
  refine ⟨rfl, ?_⟩
  show D.int _ = D.int (srv ws ts s d)
  unfold srv
  rw [getD_of hw, getD_of ht]

end
/-! ### valued -/
abbrev s_valued : Stmt := topS 6
abbrev N_valued : List Str := ["wanted", "terms", "keeps", "slack", "values", "makers", "day", "need", "value", "maker", "start"]
theorem sc_valued : FnScope N_valued ["wanted", "terms"] (defScope s_valued) := ⟨rfl, rfl, rfl, by decide +kernel, rfl, by decide +kernel, by decide +kernel⟩
structure VIn (ws : List Int) (ts : List Tm) : Prop where
  len : ts.length = ws.length
  ln : ws.length ≤ 100
  tok : ∀ t ∈ ts, TermOk t
  sv : Served ts ws
section
variable {P : Program} {w : World} {K : PySem.W.Frag} {mg : Str → Option Value} {base : Heap}
abbrev sp_valued (K : PySem.W.Frag) : Sp := SpA K Gd false (fun x : List Int × List Tm => [.lst (x.1.map D.int), .lst (x.2.map tmD)]) (fun x => VIn x.1 x.2)
  (fun x d => ∃ vs ms, d = .tup [.lst (vs.map D.int), .lst (ms.map oi)] ∧ Valued x.1 x.2 x.1.length vs ms) noRs
theorem c_valued (Dn : Dfn K mg "valued" s_valued ["wanted", "terms"]) (Z : Glb K mg) (C_serving : Cal P w K mg base 1 "serving" (sp_serving K) []) (C_kept_up_to : Cal P w K mg base 1 "kept_up_to" (sp_kept_up_to K) []) : Cal P w K mg base 2 "valued" (sp_valued K) [] := by
  obtain ⟨f, fd, F, hm, hb⟩ := Dn.ex
  refine ⟨f, fd, ["wanted", "terms"], [], ?_, hm, F.kp, hb, .nil⟩
  refine F.ok sc_valued (fun vs H Q E h => spA_len (fun _ => rfl) h) (fun cdv A outer s H vs Q E hr h => ?_)
  refine ⟨_, (pss_cons (ps_set (i := 2) sc_valued.nd rfl (.inr rfl) (pe_c C_kept_up_to hr (by decide) (by rfl) (pa_cons (pv 1) pa_nil)))
    (pss_cons (ps_set (i := 3) sc_valued.nd rfl (.inr rfl) pe_dnewK)
    (pss_cons (ps_set (i := 4) sc_valued.nd rfl (.inl rfl) (pe_lst pa_nil))
    (pss_cons (ps_set (i := 5) sc_valued.nd rfl (.inl rfl) (pe_lst pa_nil))
    (pss_cons (ps_for PassesOwn.never rfl (pi_enum (by rfl) Z.b_enumerate (pa_cons (pv 0) pa_nil)) (pg_tup rfl (pgs_cons (pg_name (i := 6) sc_valued.nd rfl (.inr rfl)) (pgs_cons (pg_name (i := 7) sc_valued.nd rfl (.inl rfl)) pgs_nil)))
    (pss_cons (ps_if (pt_cmpR op_notN (pe_ix ix_tup (pe_ix ix_list (pv 1) (pv 6) (fun _ _ => rfl)) pe_int (fun _ _ => rfl)) pe_non (nomark _))
      (pss_one (ps_dput (hu_of hr) (pv 3) (pv 6) (pe_ix ix_tup (pe_ix ix_list (pv 1) (pv 6) (fun _ _ => rfl)) pe_int (fun _ _ => rfl)) rfl))
      pss_nil)
      (pss_cons (ps_if (pt_cmpR op_eq (pv 7) pe_int (nomark _))
      (pss_cons (ps_expr (pe_bm PySem.F.plainAttrs_list PySem.F.slot_list_append PySem.F.type_list_append mt_append (pv 4) (pa_cons pe_int pa_nil)))
        (pss_cons (ps_expr (pe_bm PySem.F.plainAttrs_list PySem.F.slot_list_append PySem.F.type_list_append mt_append (pv 5) (pa_cons pe_non pa_nil)))
        (pss_one ps_continue)))
      pss_nil)
      (pss_cons (ps_if (pt_cmpR op_eq (pe_callB call_lenD (by rfl) Z.b_len PySem.boot_len (pa_cons (pv 3) pa_nil)) pe_int (nomark _))
      (pss_one ps_dead)
      pss_nil)
      (pss_cons (ps_asg (pe_callB (cr_minD rfl hr.units) (by rfl) Z.b_min (by decide +kernel) (pa_cons (pe_lock (pe_lc (own := [("start", 10)]) rfl sc_valued.nd (pi_keys (pv 3)) (blkOk_by (N := N_valued) (sc := defScope s_valued) (by decide +kernel)) (fun _ _ _ _ _ => (pg_name (i := 10) sc_valued.nd rfl (.inl rfl))) (fun _ _ _ _ _ => pts_nil) (fun _ _ _ _ _ => (pe_tup (pa_cons (pe_op op_add (pe_c C_serving hr (by decide) (by rfl) (pa_cons (pv 0) (pa_cons (pv 1) (pa_cons (pv 2) (pa_cons (pv 10) (pa_cons (pv 6) pa_nil)))))) (pe_dget (hu_of hr) (pv 3) (pv 10) (fun _ _ => rfl))) (pa_cons (pv 10) pa_nil)))))) pa_nil)) (pg_tup rfl (pgs_cons (pg_name (i := 8) sc_valued.nd rfl (.inl rfl)) (pgs_cons (pg_name (i := 9) sc_valued.nd rfl (.inl rfl)) pgs_nil))))
      (pss_cons (ps_for PassesOwn.never rfl (pi_list (pe_callTy (call_list_dK rfl) (by rfl) Z.b_list (by decide +kernel) (pa_cons (pv 3) pa_nil))) (pg_name (i := 10) sc_valued.nd rfl (.inl rfl))
      (pss_one (ps_daug (hu_of hr) (pv 3) (pv 10) (pe_callB (call_max2 rfl) (by rfl) Z.b_max (by decide +kernel) (pa_cons pe_int (pa_cons (pe_op op_sub (pv 8) (pe_c C_serving hr (by decide) (by rfl) (pa_cons (pv 0) (pa_cons (pv 1) (pa_cons (pv 2) (pa_cons (pv 10) (pa_cons (pv 6) pa_nil))))))) pa_nil))) in_sub (fun _ _ _ => rfl))))
      (pss_cons (ps_expr (pe_bm PySem.F.plainAttrs_list PySem.F.slot_list_append PySem.F.type_list_append mt_append (pv 4) (pa_cons (pv 8) pa_nil)))
      (pss_one (ps_expr (pe_bm PySem.F.plainAttrs_list PySem.F.slot_list_append PySem.F.type_list_append mt_append (pv 5) (pa_cons (pv 9) pa_nil)))))))))))
    (pss_one (ps_ret (pe_tup (pa_cons (pv 4) (pa_cons (pv 5) pa_nil)))))))))), ?_⟩
  try dsimp only [cxOf, Cx.nox, Cx.wish]
  refine run_def (N := N_valued) (fun _ => Nat.le_of_ble_eq_true rfl) (env0 := fun x : List Int × List Tm => [.p (.lst (x.1.map D.int)), .p (.lst (x.2.map tmD)), .u, .u, .u, .u, .u, .u, .u, .u, .u]) (fun _ => rfl) (fun B x hp L => ?_) h
  obtain ⟨ws, ts⟩ := x
  dsimp only
  obtain ⟨hlt, ln, tok, sv⟩ := hp
  dsimp only at hlt ln tok sv
  repeat walk_at "v"
  walk_at "c"
  repeat walk_at "v"
  refine ⟨ts, rfl, (by show ts.length ≤ 1000; omega), fun _ h => h, ?_⟩
  rintro _ rfl
  repeat walk_at "v"
  refine vs_for (vi_enum ?_)
  repeat walk_at "v"
  refine ⟨_, _, rfl, rfl, fun i e => ∃ vs ms x1 x2 x3 x4 x5, e = [.p (.lst (ws.map D.int)), .p (.lst (ts.map tmD)), .p (.lst ((kept ts).map D.int)), .mu (.dct (keysD (opens ts i) (slackAt ws ts vs i))), .mu (.lst (vs.map D.int)), .mu (.lst (ms.map oi)), x1, x2, x3, x4, x5] ∧ Valued ws ts i vs ms, ⟨[], [], .u, .u, .u, .u, .u, (by rfl), .nil ws ts⟩, ?_, ?_⟩
  · rintro i d e hi ⟨vs, ms, x1, x2, x3, x4, x5, rfl, hv⟩
    obtain ⟨d, hd, rfl⟩ := enumD_get hi
    obtain ⟨w, hw, rfl⟩ := map_get hd
    have hi2 := lt_of_get hw
    obtain ⟨⟨s, p, k⟩, ht⟩ : ∃ t, ts[i]? = some t := ⟨_, List.getElem?_eq_getElem (by omega)⟩
    have htm : atI (ts.map tmD) (i : Int) = some (.tup [oi s, .int p, .int k]) := atI_get tmD ht
    have lv := hv.lv
    have lm := hv.lm
    have hwd : ws.getD i 0 = w := getD_of hw
    repeat walk_at "v"
    refine vs_forget 8 (vs_forget 9 (vs_forget 10 ?_))
    have hop : opens ts (i + 1) = if s.isSome then opens ts i ++ [i] else opens ts i := by
      show (if (ts.getD i (none, 0, 0)).1.isSome = true then opens ts i ++ [i] else opens ts i) = _
      rw [getD_of ht]
    have hsu : ∀ q, s = some q → setupOf ts i = q := fun q e => by
      unfold setupOf
      rw [getD_of ht, e]
      rfl
    refine vs_cut (fun e => e = [.p (.lst (ws.map D.int)), .p (.lst (ts.map tmD)), .p (.lst ((kept ts).map D.int)), .mu (.dct (keysD (opens ts (i + 1)) (slackAt ws ts vs i))), .mu (.lst (vs.map D.int)), .mu (.lst (ms.map oi)), .p (.int i), .p (.int w), .u, .u, .u]) (vs_if ?_) ?_
    · repeat walk_at "v"
      refine vo_ixL rfl htm ?_
      repeat walk_at "v"
      refine vo_ixT (atI_nat (j := 0) rfl) ?_
      repeat walk_at "v"
      rw [oi_isN]
      cases s with
      | none =>
        refine and_f rfl ?_
        repeat walk_at "v"
        rw [hop]
        rfl
      | some s =>
        refine and_t rfl ?_
        refine vs_dput rfl ?_
        repeat walk_at "v"
        refine vo_ixL rfl htm ?_
        repeat walk_at "v"
        refine vo_ixT (d := .int s) (atI_nat (j := 0) rfl) ?_
        repeat walk_at "v"
        refine ⟨_, rfl, ?_⟩
        repeat walk_at "v"
        refine ⟨.inl (i : Int), rfl, ?_, ?_⟩
        · unfold keysD
          rw [List.length_map]
          have := opens_len ts i
          omega
        · have hni : i ∉ opens ts i := fun z => absurd ((opens_lt ts i i).mp z).1 (Nat.lt_irrefl _)
          rw [putD_new hni, hop]
          rw [show keysD (if (some s).isSome = true then opens ts i ++ [i] else opens ts i) (slackAt ws ts vs i) = keysD (opens ts i ++ [i]) (fun t => if t = i then s else slackAt ws ts vs i t) from keysD_congr fun t ht2 => by
            by_cases e : t = i
            · rw [if_pos e, e]
              unfold slackAt
              rw [hsu s rfl, ld_low _ _ _ _ _ (Nat.le_refl _), Int.sub_zero]
            · rw [if_neg e]]
          rfl
    · rintro e rfl
      refine vs_seq (vs_if ?_)
      repeat walk_at "v"
      refine ⟨fun q => ?_, fun q => ?_⟩
      · have w0 : w = 0 := of_decide_eq_true q
        repeat walk_at "v"
        refine ⟨_, rfl, by rw [List.length_map]; omega, ?_⟩
        repeat walk_at "v"
        refine ⟨_, rfl, by rw [List.length_map]; omega, ?_⟩
        repeat walk_at "v"
        refine ⟨vs ++ [0], ms ++ [none], .p (.int i), .p (.int w), .u, .u, .u, ?_, hv.snoc (fun _ => ⟨rfl, rfl⟩) (fun z => absurd (hwd.trans w0) z) (fun z => absurd (hwd.trans w0) z)⟩
        rw [List.map_append, List.map_append]
        rw [show keysD (opens ts (i + 1)) (slackAt ws ts (vs ++ [0]) (i + 1)) = keysD (opens ts (i + 1)) (slackAt ws ts vs i) from keysD_congr fun t ht2 => by
          have h1 := ((opens_lt ts (i + 1) t).mp ht2).1
          have h3 : srv ws ts t i = 0 := by
            unfold srv
            rw [hwd, w0, Int.zero_mul]
          have h4 : (vs ++ [(0 : Int)]).getD i 0 = 0 := by
            rw [← lv]
            exact getD_last
          rw [slack_next (by omega), slack_app (by omega), h3, h4]
          simp]
        rfl
      · have w1 : w ≠ 0 := of_decide_eq_false q
        have hos : opens ts (i + 1) ≠ [] := fun z => by
          obtain ⟨j, t, hj, htj, hn⟩ := sv i w hw w1
          have hm : j ∈ opens ts (i + 1) := (opens_lt ts (i + 1) j).mpr ⟨by omega, by rw [getD_of htj]; cases e : t.1 with | none => exact absurd e hn | some x => rfl⟩
          rw [z] at hm
          cases hm
        generalize hO : opens ts (i + 1) = os at hos
        have hol : os.length ≤ 100 := by
          rw [← hO]
          exact Nat.le_trans (opens_len ts (i + 1)) (by omega)
        have hom : ∀ s ∈ os, s < i + 1 := fun s hs => ((opens_lt ts (i + 1) s).mp (by rw [hO]; exact hs)).1
        have hnd : os.Nodup := by
          rw [← hO]
          exact opens_nodup ts (i + 1)
        repeat walk_at "v"
        refine vs_if ?_
        repeat walk_at "v"
        refine vc_lenD rfl ?_
        repeat walk_at "v"
        refine and_f (decide_eq_false ?_) ?_
        · unfold keysD
          rw [List.length_map]
          intro z
          exact hos (List.eq_nil_of_length_eq_zero (by omega))
        repeat walk_at "v"
        refine ve_lockM (i := 3) rfl ?_ fun a => ?_
        · simp only [List.set, List.all_cons, List.all_nil, Slot.noD]
          rw [noD_ois 8, noD_ints 8 vs, show D.noD 9 (.lst (ws.map D.int)) = true from noD_ints 7 ws, show D.noD 9 (.lst ((kept ts).map D.int)) = true from noD_ints 7 _, show D.noD 9 (.lst (ts.map tmD)) = true from noD_tms 6 ts]
          rfl
        refine ve_lc (hu1 rfl) (only_name (by decide)) (vi_keys ?_)
        repeat walk_at "v"
        refine ⟨_, _, rfl, ?_, fun j acc => acc = ((os.take j).map fun s : Nat => (srv ws ts s i + slackAt ws ts vs i s, (s : Int))).map pairD, rfl, ?_, ?_⟩
        · rw [keysD_keys, List.length_map]
          omega
        · rintro q j e acc hj rfl
          rw [keysD_keys] at hj
          obtain ⟨s1, hs1, rfl⟩ := map_get hj
          have hsm := List.mem_of_getElem? hs1
          have hs3 := hom s1 hsm
          repeat walk_at "v"
          refine ⟨.set .refl (by decide), ?_⟩
          repeat walk_at "v"
          refine and_t rfl ?_
          repeat walk_at "v"
          walk_at "c"
          repeat walk_at "v"
          refine ⟨(ws, ts, s1, i), rfl, ⟨by show s1 < ts.length; omega, by show i < ts.length; omega, hi2, by show ts.length ≤ 1000; omega, tok⟩, fun _ h => h, ?_⟩
          rintro _ rfl
          repeat walk_at "v"
          refine ⟨_, .inl (s1 : Int), _, rfl, rfl, valD_keys hsm, ?_⟩
          repeat walk_at "v"
          refine ⟨_, rfl, ?_⟩
          show _ = List.map _ (List.map _ (List.take (j + 1) _))
          rw [take_one hs1, List.map_append, List.map_append]
          rfl
        · rintro acc rfl
          rw [keysD_keys, List.length_map, List.take_length]
          refine fz_o ⟨noD_pairs 6 _, ?_⟩
          repeat walk_at "v"
          refine vc_minP rfl ?_ fun m hm hmin => ?_
          · intro z
            exact hos (List.map_eq_nil_iff.mp z)
          obtain ⟨s0, hs0, rfl⟩ := List.mem_map.mp hm
          have hv1 : ∀ s ∈ os, srv ws ts s0 i + slackAt ws ts vs i s0 ≤ srv ws ts s i + slackAt ws ts vs i s := fun s hs => hmin _ (List.mem_map_of_mem hs)
          unfold pairD
          dsimp only
          generalize hval : srv ws ts s0 i + slackAt ws ts vs i s0 = v at hv1
          repeat walk_at "v"
          refine vs_for (vi_l ?_)
          repeat walk_at "v"
          refine vc_listD rfl ?_
          repeat walk_at "v"
          rw [keysD_keys]
          refine ⟨_, rfl, fun j e => ∃ x, e = [.p (.lst (ws.map D.int)), .p (.lst (ts.map tmD)), .p (.lst ((kept ts).map D.int)), .mu (.dct (keysD os (fun s => if s ∈ os.take j then slackAt ws ts vs i s - max 0 (v - srv ws ts s i) else slackAt ws ts vs i s))), .mu (.lst (vs.map D.int)), .mu (.lst (ms.map oi)), .p (.int i), .p (.int w), .p (.int v), .p (.int s0), x], ?_, ?_, ?_⟩
          · refine ⟨.u, ?_⟩
            rw [show keysD os (fun s => if s ∈ os.take 0 then slackAt ws ts vs i s - max 0 (v - srv ws ts s i) else slackAt ws ts vs i s) = keysD os (slackAt ws ts vs i) from keysD_congr fun s _ => by simp]
            rfl
          · rintro j d e hj ⟨x, rfl⟩
            obtain ⟨s1, hs1, rfl⟩ := map_get hj
            have hsm := List.mem_of_getElem? hs1
            have hs3 := hom s1 hsm
            have hnew : s1 ∉ os.take j := fun z => by
              obtain ⟨q, hq⟩ := List.getElem?_of_mem z
              rw [List.getElem?_take] at hq
              split at hq
              · rename_i hqj
                have := (List.getElem?_inj (by have := lt_of_get hq; exact this) hnd).mp (hq.trans hs1.symm)
                omega
              · cases hq
            repeat walk_at "v"
            refine vs_daug rfl ?_
            repeat walk_at "v"
            refine ⟨.inl (s1 : Int), _, rfl, valD_keys hsm, by unfold keysD; rw [List.length_map]; omega, ?_⟩
            repeat walk_at "v"
            walk_at "c"
            repeat walk_at "v"
            refine ⟨(ws, ts, s1, i), rfl, ⟨by show s1 < ts.length; omega, by show i < ts.length; omega, hi2, by show ts.length ≤ 1000; omega, tok⟩, fun _ h => h, ?_⟩
            rintro _ rfl
            repeat walk_at "v"
            refine vo_I0 ?_
            refine ⟨_, rfl, .p (.int (s1 : Int)), ?_⟩
            rw [putD_old hsm, if_neg hnew]
            rw [show keysD os (fun s => if s ∈ os.take (j + 1) then slackAt ws ts vs i s - max 0 (v - srv ws ts s i) else slackAt ws ts vs i s) = keysD os (fun t => if t = s1 then slackAt ws ts vs i s1 - max 0 (v - srv ws ts s1 i) else if t ∈ os.take j then slackAt ws ts vs i t - max 0 (v - srv ws ts t i) else slackAt ws ts vs i t) from keysD_congr fun t _ => by
              rw [take_one hs1]
              by_cases e : t = s1
              · subst e
                simp
              · rw [if_neg e]
                by_cases e2 : t ∈ os.take j
                · rw [if_pos (List.mem_append_left _ e2), if_pos e2]
                · rw [if_neg e2, if_neg]
                  intro z
                  rcases List.mem_append.mp z with z | z
                  · exact e2 z
                  · exact e (List.mem_singleton.mp z)]
            rfl
          · rintro e ⟨x, rfl⟩
            rw [List.length_map, List.take_length]
            repeat walk_at "v"
            refine ⟨_, rfl, by rw [List.length_map]; omega, ?_⟩
            repeat walk_at "v"
            refine ⟨_, rfl, by rw [List.length_map]; omega, ?_⟩
            repeat walk_at "v"
            refine ⟨vs ++ [v], ms ++ [some (s0 : Int)], .p (.int i), .p (.int w), .p (.int v), .p (.int s0), x, ?_, hv.snoc (fun z => absurd (hwd.symm.trans z) w1) (fun _ s hs => by rw [← hval]; exact (by rw [hO] at hs; have := hv1 s hs; omega)) (fun _ => ⟨s0, rfl, by rw [hO]; exact hs0, hval.symm⟩)⟩
            rw [List.map_append, List.map_append, hO]
            rw [show keysD os (slackAt ws ts (vs ++ [v]) (i + 1)) = keysD os (fun s => if s ∈ os then slackAt ws ts vs i s - max 0 (v - srv ws ts s i) else slackAt ws ts vs i s) from keysD_congr fun t ht2 => by
              have h1 := hom t ht2
              have h4 : (vs ++ [v]).getD i 0 = v := by
                rw [← lv]
                exact getD_last
              rw [slack_next (by omega), slack_app (by omega), h4, if_pos ht2]]
            rfl
  · rintro e ⟨vs, ms, x1, x2, x3, x4, x5, rfl, hv⟩
    refine vs_freeze 4 rfl (vs_freeze 5 rfl ?_)
    repeat walk_at "v"
    rw [enumD_len, List.length_map] at hv
    exact ⟨rfl, vs, ms, rfl, hv⟩

end
/-! ### cheapest -/
abbrev s_cheapest : Stmt := topS 7
abbrev N_cheapest : List Str := ["wanted", "terms", "values", "makers", "orders", "day", "start", "need"]
theorem sc_cheapest : FnScope N_cheapest ["wanted", "terms"] (defScope s_cheapest) := ⟨rfl, rfl, rfl, by decide +kernel, rfl, by decide +kernel, by decide +kernel⟩
section
variable {P : Program} {w : World} {K : PySem.W.Frag} {mg : Str → Option Value} {base : Heap}
abbrev sp_cheapest (K : PySem.W.Frag) : Sp := SpA K Gd false (fun x : List Int × List Tm => [.lst (x.1.map D.int), .lst (x.2.map tmD)]) (fun x => VIn x.1 x.2)
  (fun x d => ∃ vs ms os, d = .tup [.int vs.sum, .lst (os.map D.int), .lst (vs.map D.int)] ∧ Valued x.1 x.2 x.1.length vs ms ∧ os = ordersOf x.1 ms) noRs
theorem c_cheapest (Dn : Dfn K mg "cheapest" s_cheapest ["wanted", "terms"]) (Z : Glb K mg) (C_valued : Cal P w K mg base 2 "valued" (sp_valued K) []) : Cal P w K mg base 3 "cheapest" (sp_cheapest K) [] := by
  obtain ⟨f, fd, F, hm, hb⟩ := Dn.ex
  refine ⟨f, fd, ["wanted", "terms"], [], ?_, hm, F.kp, hb, .nil⟩
  refine F.ok sc_cheapest (fun vs H Q E h => spA_len (fun _ => rfl) h) (fun cdv A outer s H vs Q E hr h => ?_)
  refine ⟨_, (pss_cons (ps_asg (pe_c C_valued hr (by decide) (by rfl) (pa_cons (pv 0) (pa_cons (pv 1) pa_nil))) (pg_tup rfl (pgs_cons (pg_name (i := 2) sc_cheapest.nd rfl (.inl rfl)) (pgs_cons (pg_name (i := 3) sc_cheapest.nd rfl (.inl rfl)) pgs_nil))))
    (pss_cons (ps_setLc (i := 4) (own := [("need", 7)]) rfl sc_cheapest.nd rfl rfl (sw_true rfl rfl rfl (by decide +kernel)) (pi_list (pv 0)) (blkOk_by (N := N_cheapest) (sc := defScope s_cheapest) (by decide +kernel)) (fun _ _ _ _ _ => (pg_name (i := 7) sc_cheapest.nd rfl (.inl rfl))) (fun _ _ _ _ _ => pts_nil) (fun _ _ _ _ _ => pe_int))
    (pss_cons (ps_set (i := 5) sc_cheapest.nd rfl (.inl rfl) (pe_op op_sub (pe_callB call_len_seq (by rfl) Z.b_len PySem.boot_len (pa_cons (pv 0) pa_nil)) pe_int))
    (pss_cons (ps_while PassesOwn.never (pt_cmpR op_ge (pv 5) pe_int (nomark _))
    (pss_cons (ps_set (i := 6) sc_cheapest.nd rfl (.inl rfl) (pe_ix ix_list (pv 3) (pv 5) (fun _ _ => rfl)))
      (pss_one (ps_if (pt_cmpR op_isN (pv 6) pe_non (nomark _))
      (pss_one (ps_aug (i := 5) sc_cheapest.nd rfl (.inl rfl) pe_int ip_sub))
      (pss_cons (ps_asg (pe_callB (cr_sum rfl) (by rfl) Z.b_sum (by decide +kernel) (pa_cons (pe_slice sl_list (pv 0) (po_some (pv 6)) (po_some (pe_op op_add (pv 5) pe_int))) pa_nil)) (pg_sub (pv 4) (pv 6) set_list))
        (pss_one (ps_set (i := 5) sc_cheapest.nd rfl (.inl rfl) (pe_op op_sub (pv 6) pe_int))))))))
    (pss_one (ps_ret (pe_tup (pa_cons (pe_callB (cr_sum rfl) (by rfl) Z.b_sum (by decide +kernel) (pa_cons (pv 2) pa_nil)) (pa_cons (pv 4) (pa_cons (pv 2) pa_nil)))))))))), ?_⟩
  try dsimp only [cxOf, Cx.nox, Cx.wish]
  refine run_def (N := N_cheapest) (fun _ => Nat.le_of_ble_eq_true rfl) (env0 := fun x : List Int × List Tm => [.p (.lst (x.1.map D.int)), .p (.lst (x.2.map tmD)), .u, .u, .u, .u, .u, .u]) (fun _ => rfl) (fun B x hp L => ?_) h
  obtain ⟨ws, ts⟩ := x
  dsimp only
  have hlt := hp.len
  have ln := hp.ln
  dsimp only at hlt ln hp
  repeat walk_at "v"
  walk_at "c"
  repeat walk_at "v"
  refine ⟨(ws, ts), rfl, hp, fun _ h => h, ?_⟩
  rintro _ ⟨vs, ms, rfl, hv⟩
  repeat walk_at "v"
  have lv := hv.lv
  have lm := hv.lm
  dsimp only at lv lm hv
  refine ve_lc (hu1 rfl) (only_name (by decide)) (vi_l ?_)
  repeat walk_at "v"
  refine ⟨_, rfl, by rw [List.length_map]; omega, fun i acc => acc = (List.replicate i (0 : Int)).map D.int, rfl, ?_, ?_⟩
  · rintro p i d acc hi rfl
    repeat walk_at "v"
    refine ⟨.set .refl (by decide), ?_⟩
    repeat walk_at "v"
    refine and_t rfl ?_
    repeat walk_at "v"
    refine ⟨_, rfl, ?_⟩
    show _ = List.map D.int (List.replicate (i + 1) 0)
    rw [List.replicate_succ', List.map_append]
    rfl
  · rintro acc rfl
    rw [List.length_map]
    repeat walk_at "v"
    rw [List.length_map]
    refine vs_while (fun k e => ∃ (os : List Int) (x : Slot) (f : Nat), e = [.p (.lst (ws.map D.int)), .p (.lst (ts.map tmD)), .p (.lst (vs.map D.int)), .p (.lst (ms.map oi)), .mu (.lst (os.map D.int)), .p (.int ((k : Nat) - 1 : Int)), x, .u] ∧ os.length = ws.length ∧ k ≤ ws.length ∧ k ≤ f ∧ ordersOf ws ms = ordersGo ws ms f k os)
      ⟨ws.length, List.replicate ws.length 0, .u, ws.length, rfl, List.length_replicate .., Nat.le_refl _, Nat.le_refl _, rfl⟩ ?_
    rintro k e ⟨os, x, f, rfl, ol, kn, kf, ho⟩
    repeat walk_at "v"
    refine ⟨fun q => ?_, fun q => ?_⟩
    · have k1 : 1 ≤ k := by have := of_decide_eq_true q; omega
      obtain ⟨k, rfl⟩ : ∃ j, k = j + 1 := ⟨k - 1, by omega⟩
      obtain ⟨f, rfl⟩ : ∃ j, f = j + 1 := ⟨f - 1, by omega⟩
      have ek : ((k + 1 : Nat) : Int) - 1 = (k : Nat) := by omega
      have hgo : ordersGo ws ms (f + 1) (k + 1) os = match ms.getD k none with
        | none => ordersGo ws ms f k os
        | some m => ordersGo ws ms f m.toNat (os.set m.toNat ((ws.take (k + 1)).drop m.toNat).sum) := rfl
      rw [ek]
      repeat walk_at "v"
      by_cases hw : ws.getD k 0 = 0
      · have hm := (hv.zero k (by omega) hw).2
        rw [getD_of hm] at hgo
        refine vo_ixL (d := .non) rfl (atI_get oi hm) ?_
        repeat walk_at "v"
        refine vs_if ?_
        repeat walk_at "v"
        refine and_t rfl ?_
        repeat walk_at "v"
        exact ⟨k, Nat.lt_succ_self k, os, .p .non, f, rfl, ol, by omega, by omega, ho.trans hgo⟩
      · obtain ⟨m, hm, hmo, _⟩ := hv.maker k (by omega) hw
        have hmk := ((opens_lt ts (k + 1) m).mp hmo).1
        rw [getD_of hm] at hgo
        refine vo_ixL (d := .int (m : Int)) rfl (atI_get oi hm) ?_
        repeat walk_at "v"
        refine vs_if ?_
        repeat walk_at "v"
        refine and_f rfl ?_
        repeat walk_at "v"
        rw [cutD_mid D.int ws (by omega) (by omega)]
        refine vc_sum rfl ?_
        refine vg_subI rfl ?_
        repeat walk_at "v"
        refine ⟨_, m, rfl, ixN_nat (by omega), ?_⟩
        repeat walk_at "v"
        have e1 : ((k : Int) + 1).toNat = k + 1 := by omega
        have e2 : ((m : Nat) : Int).toNat = m := Int.toNat_natCast m
        rw [e1, e2]
        refine ⟨m, hmk, os.set m ((ws.take (k + 1)).drop m).sum, .p (.int (m : Int)), f, rfl, by rw [List.length_set]; exact ol, by omega, by omega, ?_⟩
        rw [ho, hgo]
        show ordersGo ws ms f (m : Int).toNat (os.set (m : Int).toNat ((ws.take (k + 1)).drop (m : Int).toNat).sum) = _
        rw [e2]
    · have k0 : k = 0 := by have := of_decide_eq_false q; omega
      subst k0
      refine vs_freeze 4 rfl ?_
      repeat walk_at "v"
      refine vc_sum rfl ?_
      repeat walk_at "v"
      refine ⟨rfl, vs, ms, os, rfl, hv, ?_⟩
      rw [ho]
      cases f <;> rfl

end
/-! ### law -/
abbrev s_law : Stmt := topS 16
abbrev N_law : List Str := ["script", "state", "terms", "wanted"]
theorem sc_law : FnScope N_law ["script"] (defScope s_law) := ⟨rfl, rfl, rfl, by decide +kernel, rfl, by decide +kernel, by decide +kernel⟩
section
variable {P : Program} {w : World} {K : PySem.W.Frag} {mg : Str → Option Value} {base : Heap}
abbrev sp_law (K : PySem.W.Frag) : Sp := SpA K Gd false (fun ns : List Int => [.ro (ns.map D.int)]) (fun ns => ns.length ≤ 63) (fun _ d => d = .bl true) noRs
theorem c_law {fl : Addr} {fdl : FuncData} (F : Fun K "law" "law" s_law fl fdl) (Z : Glb K mg) (C_cheapest : Cal P w K mg base 3 "cheapest" (sp_cheapest K) []) (C__law_least : Cal P w K mg base 2 "_law_least" (sp__law_least K) []) (C__law_wanted : Cal P w K mg base 3 "_law_wanted" (sp__law_wanted K) []) (C__law_terms : Cal P w K mg base 2 "_law_terms" (sp__law_terms K) []) (C__law_next : Cal P w K mg base 1 "_law_next" (sp__law_next K) []) (C__law_drawn : Cal P w K mg base 1 "_law_drawn" (sp__law_drawn K) []) : FnOk P w K mg base CX0 4 fl fdl ["script"] (sp_law K) := by
  refine F.ok sc_law (fun vs H Q E h => spA_len (fun _ => rfl) h) (fun cdv A outer s H vs Q E hr h => ?_)
  refine ⟨_, (pss_cons (ps_set (i := 1) sc_law.nd rfl (.inl rfl) (pe_c C__law_drawn hr (by decide) (by rfl) (pa_cons (pv 0) pa_nil)))
    (pss_cons (ps_set (i := 2) sc_law.nd rfl (.inl rfl) (pe_c C__law_terms hr (by decide) (by rfl) (pa_cons (pv 1) (pa_cons (pe_op op_add pe_int (pe_c C__law_next hr (by decide) (by rfl) (pa_cons (pv 1) (pa_cons pe_int pa_nil)))) pa_nil))))
    (pss_cons (ps_set (i := 3) sc_law.nd rfl (.inl rfl) (pe_c C__law_wanted hr (by decide) (by rfl) (pa_cons (pv 1) (pa_cons (pv 2) pa_nil))))
    (pss_one (ps_ret (pe_cmpR op_eq (pe_ix ix_tup (pe_c C_cheapest hr (by decide) (by rfl) (pa_cons (pv 3) (pa_cons (pv 2) pa_nil))) pe_int (fun _ _ => rfl)) (pe_c C__law_least hr (by decide) (by rfl) (pa_cons (pv 3) (pa_cons (pv 2) pa_nil))) (nomark _))))))), ?_⟩
  try dsimp only [cxOf, Cx.nox, Cx.wish]
  refine run_def (N := N_law) (fun _ => Nat.le_of_ble_eq_true rfl) (env0 := fun ns => [.p (.ro (ns.map D.int)), .u, .u, .u]) (fun _ => rfl) (fun B ns hp L => ?_) h
  repeat walk_at "u"
  refine vs_seq ?_
  repeat walk_at "u"
  walk_at "co"
  repeat walk_at "v"
  refine ⟨ns, rfl, hp, fun _ h => h, ?_⟩
  rintro _ ⟨st, rfl, gs⟩
  refine ⟨flat_ints _, .inl ⟨_, rfl⟩, ?_⟩
  repeat walk_at "u"
  refine vs_toSt 1 rfl gs ?_
  repeat walk_at "v"
  walk_at "c"
  repeat walk_at "v"
  walk_at "c"
  repeat walk_at "v"
  refine ⟨_, rfl, ⟨by first | decide | omega, by first | decide | omega⟩, fun _ h => h, ?_⟩
  rintro _ ⟨k, rfl, k0, k1⟩
  repeat walk_at "v"
  obtain ⟨n, hn⟩ := Int.eq_ofNat_of_zero_le (show 0 ≤ 1 + k by omega)
  rw [hn]
  refine ⟨n, rfl, by omega, fun _ h => h, ?_⟩
  rintro _ ⟨ts, rfl, tl, tok⟩
  repeat walk_at "v"
  walk_at "c"
  repeat walk_at "v"
  refine ⟨ts, rfl, by omega, fun _ h => h, ?_⟩
  rintro _ ⟨ws, rfl, wl, wok, wsv⟩
  have hin : VIn ws ts := ⟨wl.symm, by omega, tok, wsv⟩
  have hw0 : ∀ w ∈ ws, 0 ≤ w := fun w hw => (wok.b w hw).1
  repeat walk_at "v"
  walk_at "c"
  repeat walk_at "v"
  refine ⟨(ws, ts), rfl, hin, fun _ h => h, ?_⟩
  rintro _ ⟨vs, ms, _, rfl, hv, rfl⟩
  repeat walk_at "v"
  have lv := hv.lv
  dsimp only at lv hv ⊢
  refine vo_ixT (d := .int vs.sum) (atI_nat (j := 0) rfl) ?_
  repeat walk_at "v"
  walk_at "c"
  repeat walk_at "v"
  refine ⟨(ws, ts), rfl, ⟨wl.symm, by show ws.length ≤ 6; omega, tok⟩, fun _ h => h, ?_⟩
  rintro _ ⟨r, rfl, hr⟩
  repeat walk_at "v"
  have := least_is wl.symm (orders_length ws ms) lv tok hw0 (valued_right hv wl.symm tok hw0) (primal_cost hv wl.symm tok hw0) hr
  subst this
  refine vo_eq (d := .int vs.sum) (e := .int vs.sum) (v := .int vs.sum) (w := .int vs.sum) rfl rfl rfl ?_
  exact ⟨rfl, by simp⟩

end
theorem all_mk {l : PySem.W.OpenLaw} {w : World} {K : PySem.W.Frag} {h : Heap} {mg : Str → Option Value} {fa : Addr}
{od0 an0 : Option Addr} {sl0 : Array (Option Value)} {oc0 kV0 dc0 pm0 cd0 ct0 : Value} {f0 : Addr}
    {od1 an1 : Option Addr} {sl1 : Array (Option Value)} {oc1 kV1 dc1 pm1 cd1 ct1 : Value} {f1 : Addr}
    {od2 an2 : Option Addr} {sl2 : Array (Option Value)} {oc2 kV2 dc2 pm2 cd2 ct2 : Value} {f2 : Addr}
    {od3 an3 : Option Addr} {sl3 : Array (Option Value)} {oc3 kV3 dc3 pm3 cd3 ct3 : Value} {f3 : Addr}
    {od4 an4 : Option Addr} {sl4 : Array (Option Value)} {oc4 kV4 dc4 pm4 cd4 ct4 : Value} {f4 : Addr}
    {od5 an5 : Option Addr} {sl5 : Array (Option Value)} {oc5 kV5 dc5 pm5 cd5 ct5 : Value} {f5 : Addr}
    {od6 an6 : Option Addr} {sl6 : Array (Option Value)} {oc6 kV6 dc6 pm6 cd6 ct6 : Value} {f6 : Addr}
    {od7 an7 : Option Addr} {sl7 : Array (Option Value)} {oc7 kV7 dc7 pm7 cd7 ct7 : Value} {f7 : Addr}
    {od8 an8 : Option Addr} {sl8 : Array (Option Value)} {oc8 kV8 dc8 pm8 cd8 ct8 : Value} {f8 : Addr}
    {od9 an9 : Option Addr} {sl9 : Array (Option Value)} {oc9 kV9 dc9 pm9 cd9 ct9 : Value} {f9 : Addr}
    {od10 an10 : Option Addr} {sl10 : Array (Option Value)} {oc10 kV10 dc10 pm10 cd10 ct10 : Value} {f10 : Addr}
    {od11 an11 : Option Addr} {sl11 : Array (Option Value)} {oc11 kV11 dc11 pm11 cd11 ct11 : Value} {f11 : Addr}
    (X : K.In h) (G : h.Ns mainGlobals mg) (hfa : mg "law" = some (.ref fa))
    (a0 : PySem.W.nsIn K mainGlobals "_law_drawn" = some (some (.ref f0))) (l0 : K.lookup f0 = some ⟨oc0, od0, .func (PySem.W.fnOf "_law_drawn" "_law_drawn" (defArgs s__law_drawn) (defBody s__law_drawn) (defScope s__law_drawn) .none kV0 dc0 pm0 an0 cd0 ct0), sl0⟩) (e0 : PySem.W.codeIn K cd0 "_law_drawn" = true) (k0 : PySem.W.keepIn K (.ref f0) = true)
    (a1 : PySem.W.nsIn K mainGlobals "_law_next" = some (some (.ref f1))) (l1 : K.lookup f1 = some ⟨oc1, od1, .func (PySem.W.fnOf "_law_next" "_law_next" (defArgs s__law_next) (defBody s__law_next) (defScope s__law_next) .none kV1 dc1 pm1 an1 cd1 ct1), sl1⟩) (e1 : PySem.W.codeIn K cd1 "_law_next" = true) (k1 : PySem.W.keepIn K (.ref f1) = true)
    (a2 : PySem.W.nsIn K mainGlobals "_law_terms" = some (some (.ref f2))) (l2 : K.lookup f2 = some ⟨oc2, od2, .func (PySem.W.fnOf "_law_terms" "_law_terms" (defArgs s__law_terms) (defBody s__law_terms) (defScope s__law_terms) .none kV2 dc2 pm2 an2 cd2 ct2), sl2⟩) (e2 : PySem.W.codeIn K cd2 "_law_terms" = true) (k2 : PySem.W.keepIn K (.ref f2) = true)
    (a3 : PySem.W.nsIn K mainGlobals "_law_amount" = some (some (.ref f3))) (l3 : K.lookup f3 = some ⟨oc3, od3, .func (PySem.W.fnOf "_law_amount" "_law_amount" (defArgs s__law_amount) (defBody s__law_amount) (defScope s__law_amount) .none kV3 dc3 pm3 an3 cd3 ct3), sl3⟩) (e3 : PySem.W.codeIn K cd3 "_law_amount" = true) (k3 : PySem.W.keepIn K (.ref f3) = true)
    (a4 : PySem.W.nsIn K mainGlobals "_law_wanted" = some (some (.ref f4))) (l4 : K.lookup f4 = some ⟨oc4, od4, .func (PySem.W.fnOf "_law_wanted" "_law_wanted" (defArgs s__law_wanted) (defBody s__law_wanted) (defScope s__law_wanted) .none kV4 dc4 pm4 an4 cd4 ct4), sl4⟩) (e4 : PySem.W.codeIn K cd4 "_law_wanted" = true) (k4 : PySem.W.keepIn K (.ref f4) = true)
    (a5 : PySem.W.nsIn K mainGlobals "_law_serving" = some (some (.ref f5))) (l5 : K.lookup f5 = some ⟨oc5, od5, .func (PySem.W.fnOf "_law_serving" "_law_serving" (defArgs s__law_serving) (defBody s__law_serving) (defScope s__law_serving) .none kV5 dc5 pm5 an5 cd5 ct5), sl5⟩) (e5 : PySem.W.codeIn K cd5 "_law_serving" = true) (k5 : PySem.W.keepIn K (.ref f5) = true)
    (a6 : PySem.W.nsIn K mainGlobals "_law_least" = some (some (.ref f6))) (l6 : K.lookup f6 = some ⟨oc6, od6, .func (PySem.W.fnOf "_law_least" "_law_least" (defArgs s__law_least) (defBody s__law_least) (defScope s__law_least) .none kV6 dc6 pm6 an6 cd6 ct6), sl6⟩) (e6 : PySem.W.codeIn K cd6 "_law_least" = true) (k6 : PySem.W.keepIn K (.ref f6) = true)
    (a7 : PySem.W.nsIn K mainGlobals "kept_up_to" = some (some (.ref f7))) (l7 : K.lookup f7 = some ⟨oc7, od7, .func (PySem.W.fnOf "kept_up_to" "kept_up_to" (defArgs s_kept_up_to) (defBody s_kept_up_to) (defScope s_kept_up_to) .none kV7 dc7 pm7 an7 cd7 ct7), sl7⟩) (e7 : PySem.W.codeIn K cd7 "kept_up_to" = true) (k7 : PySem.W.keepIn K (.ref f7) = true)
    (a8 : PySem.W.nsIn K mainGlobals "serving" = some (some (.ref f8))) (l8 : K.lookup f8 = some ⟨oc8, od8, .func (PySem.W.fnOf "serving" "serving" (defArgs s_serving) (defBody s_serving) (defScope s_serving) .none kV8 dc8 pm8 an8 cd8 ct8), sl8⟩) (e8 : PySem.W.codeIn K cd8 "serving" = true) (k8 : PySem.W.keepIn K (.ref f8) = true)
    (a9 : PySem.W.nsIn K mainGlobals "valued" = some (some (.ref f9))) (l9 : K.lookup f9 = some ⟨oc9, od9, .func (PySem.W.fnOf "valued" "valued" (defArgs s_valued) (defBody s_valued) (defScope s_valued) .none kV9 dc9 pm9 an9 cd9 ct9), sl9⟩) (e9 : PySem.W.codeIn K cd9 "valued" = true) (k9 : PySem.W.keepIn K (.ref f9) = true)
    (a10 : PySem.W.nsIn K mainGlobals "cheapest" = some (some (.ref f10))) (l10 : K.lookup f10 = some ⟨oc10, od10, .func (PySem.W.fnOf "cheapest" "cheapest" (defArgs s_cheapest) (defBody s_cheapest) (defScope s_cheapest) .none kV10 dc10 pm10 an10 cd10 ct10), sl10⟩) (e10 : PySem.W.codeIn K cd10 "cheapest" = true) (k10 : PySem.W.keepIn K (.ref f10) = true)
    (a11 : PySem.W.nsIn K mainGlobals "law" = some (some (.ref f11))) (l11 : K.lookup f11 = some ⟨oc11, od11, .func (PySem.W.fnOf "law" "law" (defArgs s_law) (defBody s_law) (defScope s_law) .none kV11 dc11 pm11 an11 cd11 ct11), sl11⟩) (e11 : PySem.W.codeIn K cd11 "law" = true) (k11 : PySem.W.keepIn K (.ref f11) = true)
    (z0 : PySem.W.nsIn K mainGlobals "all" = some none)
    (z1 : PySem.W.nsIn K mainGlobals "enumerate" = some none)
    (z2 : PySem.W.nsIn K mainGlobals "len" = some none)
    (z3 : PySem.W.nsIn K mainGlobals "list" = some none)
    (z4 : PySem.W.nsIn K mainGlobals "max" = some none)
    (z5 : PySem.W.nsIn K mainGlobals "min" = some none)
    (z6 : PySem.W.nsIn K mainGlobals "range" = some none)
    (z7 : PySem.W.nsIn K mainGlobals "sum" = some none)
    : ∃ fd : FuncData, (∀ (s : Shared) (v : Value), BindsTo s fd ⟨[v], []⟩ [("script", v)]) ∧ ∀ base : Heap, K.In base → base.Ns mainGlobals mg → FnOk l.prog w K mg base CX0 4 fa fd ["script"] (spLaw K) := by
  have q := hfa.symm.trans (PySem.W.mg_of X G a11)
  cases q
  have Z : Glb K mg := ⟨trivial, PySem.W.mg_none_of X G z0, PySem.W.mg_none_of X G z1, PySem.W.mg_none_of X G z2, PySem.W.mg_none_of X G z3, PySem.W.mg_none_of X G z4, PySem.W.mg_none_of X G z5, PySem.W.mg_none_of X G z6, PySem.W.mg_none_of X G z7⟩
  have F0 := fun_mk (st := s__law_drawn) l0 e0 k0
  have Dn0 : Dfn K mg "_law_drawn" s__law_drawn ["script"] := ⟨f0, _, F0, PySem.W.mg_of X G a0, F0.binds (ps := ["script"]) fun _ _ _ _ _ _ us hl => match us, hl with | [_], _ => rfl⟩
  have F1 := fun_mk (st := s__law_next) l1 e1 k1
  have Dn1 : Dfn K mg "_law_next" s__law_next ["state", "many"] := ⟨f1, _, F1, PySem.W.mg_of X G a1, F1.binds (ps := ["state", "many"]) fun _ _ _ _ _ _ us hl => match us, hl with | [_, _], _ => rfl⟩
  have F2 := fun_mk (st := s__law_terms) l2 e2 k2
  have Dn2 : Dfn K mg "_law_terms" s__law_terms ["state", "days"] := ⟨f2, _, F2, PySem.W.mg_of X G a2, F2.binds (ps := ["state", "days"]) fun _ _ _ _ _ _ us hl => match us, hl with | [_, _], _ => rfl⟩
  have F3 := fun_mk (st := s__law_amount) l3 e3 k3
  have Dn3 : Dfn K mg "_law_amount" s__law_amount ["state"] := ⟨f3, _, F3, PySem.W.mg_of X G a3, F3.binds (ps := ["state"]) fun _ _ _ _ _ _ us hl => match us, hl with | [_], _ => rfl⟩
  have F4 := fun_mk (st := s__law_wanted) l4 e4 k4
  have Dn4 : Dfn K mg "_law_wanted" s__law_wanted ["state", "terms"] := ⟨f4, _, F4, PySem.W.mg_of X G a4, F4.binds (ps := ["state", "terms"]) fun _ _ _ _ _ _ us hl => match us, hl with | [_, _], _ => rfl⟩
  have F5 := fun_mk (st := s__law_serving) l5 e5 k5
  have Dn5 : Dfn K mg "_law_serving" s__law_serving ["wanted", "terms", "start", "day"] := ⟨f5, _, F5, PySem.W.mg_of X G a5, F5.binds (ps := ["wanted", "terms", "start", "day"]) fun _ _ _ _ _ _ us hl => match us, hl with | [_, _, _, _], _ => rfl⟩
  have F6 := fun_mk (st := s__law_least) l6 e6 k6
  have Dn6 : Dfn K mg "_law_least" s__law_least ["wanted", "terms"] := ⟨f6, _, F6, PySem.W.mg_of X G a6, F6.binds (ps := ["wanted", "terms"]) fun _ _ _ _ _ _ us hl => match us, hl with | [_, _], _ => rfl⟩
  have F7 := fun_mk (st := s_kept_up_to) l7 e7 k7
  have Dn7 : Dfn K mg "kept_up_to" s_kept_up_to ["terms"] := ⟨f7, _, F7, PySem.W.mg_of X G a7, F7.binds (ps := ["terms"]) fun _ _ _ _ _ _ us hl => match us, hl with | [_], _ => rfl⟩
  have F8 := fun_mk (st := s_serving) l8 e8 k8
  have Dn8 : Dfn K mg "serving" s_serving ["wanted", "terms", "keeps", "start", "day"] := ⟨f8, _, F8, PySem.W.mg_of X G a8, F8.binds (ps := ["wanted", "terms", "keeps", "start", "day"]) fun _ _ _ _ _ _ us hl => match us, hl with | [_, _, _, _, _], _ => rfl⟩
  have F9 := fun_mk (st := s_valued) l9 e9 k9
  have Dn9 : Dfn K mg "valued" s_valued ["wanted", "terms"] := ⟨f9, _, F9, PySem.W.mg_of X G a9, F9.binds (ps := ["wanted", "terms"]) fun _ _ _ _ _ _ us hl => match us, hl with | [_, _], _ => rfl⟩
  have F10 := fun_mk (st := s_cheapest) l10 e10 k10
  have Dn10 : Dfn K mg "cheapest" s_cheapest ["wanted", "terms"] := ⟨f10, _, F10, PySem.W.mg_of X G a10, F10.binds (ps := ["wanted", "terms"]) fun _ _ _ _ _ _ us hl => match us, hl with | [_, _], _ => rfl⟩
  have F11 := fun_mk (st := s_law) l11 e11 k11
  have C0 : ∀ base : Heap, Cal l.prog w K mg base 1 "_law_drawn" (sp__law_drawn K) [] := fun base => c__law_drawn Dn0 Z 
  have C1 : ∀ base : Heap, Cal l.prog w K mg base 1 "_law_next" (sp__law_next K) [] := fun base => c__law_next Dn1 Z 
  have C2 : ∀ base : Heap, Cal l.prog w K mg base 2 "_law_terms" (sp__law_terms K) [] := fun base => c__law_terms Dn2 Z (C1 base)
  have C3 : ∀ base : Heap, Cal l.prog w K mg base 2 "_law_amount" (sp__law_amount K) [] := fun base => c__law_amount Dn3 Z (C1 base)
  have C4 : ∀ base : Heap, Cal l.prog w K mg base 3 "_law_wanted" (sp__law_wanted K) [] := fun base => c__law_wanted Dn4 Z (C3 base)
  have C5 : ∀ base : Heap, Cal l.prog w K mg base 1 "_law_serving" (sp__law_serving K) [] := fun base => c__law_serving Dn5 Z 
  have C6 : ∀ base : Heap, Cal l.prog w K mg base 2 "_law_least" (sp__law_least K) [] := fun base => c__law_least Dn6 Z (C5 base)
  have C7 : ∀ base : Heap, Cal l.prog w K mg base 1 "kept_up_to" (sp_kept_up_to K) [] := fun base => c_kept_up_to Dn7 Z 
  have C8 : ∀ base : Heap, Cal l.prog w K mg base 1 "serving" (sp_serving K) [] := fun base => c_serving Dn8 Z 
  have C9 : ∀ base : Heap, Cal l.prog w K mg base 2 "valued" (sp_valued K) [] := fun base => c_valued Dn9 Z (C8 base) (C7 base)
  have C10 : ∀ base : Heap, Cal l.prog w K mg base 3 "cheapest" (sp_cheapest K) [] := fun base => c_cheapest Dn10 Z (C9 base)
  exact ⟨PySem.W.fnOf "law" "law" (defArgs s_law) (defBody s_law) (defScope s_law) .none kV11 dc11 pm11 an11 cd11 ct11, fun s v => .of_eq rfl, fun base _ _ => law_of (c_law F11 Z (C10 base) (C6 base) (C4 base) (C2 base) (C1 base) (C0 base))⟩
end N
open PySem PySem.W PyProof.Rows
set_option maxHeartbeats 0 in
theorem PySem.Challenge.cw_needplan_k45_plain_model_beside_holds : PySem.Challenge.rw_needplan_k45_plain_model_beside.Holds := by
  w_on; o_law; k_head; (case hw => w_witness2)
  k_fill
  refine L2.walk_of (l := PySem.Challenge.rw_needplan_k45_plain_model_beside) (n := 63) (k := 4) (x := "script") (CX := fun _ => L2.CX0) (sp := fun w => VL.spLaw _) rfl (by decide) rfl ⟨rfl, by decide, by decide⟩ (fun w h Y => PySem.W.kIn_of Y) ?F (fun _ _ a ns hl _ hS => ⟨a, ns, rfl, hS, hl, fun _ => rfl⟩) (fun _ _ _ _ _ h => h)
  case F =>
    intro w mg fa h KX G hmg
    refine' N.all_mk KX G hmg ?a0 ?l0 ?e0 ?k0 ?a1 ?l1 ?e1 ?k1 ?a2 ?l2 ?e2 ?k2 ?a3 ?l3 ?e3 ?k3 ?a4 ?l4 ?e4 ?k4 ?a5 ?l5 ?e5 ?k5 ?a6 ?l6 ?e6 ?k6 ?a7 ?l7 ?e7 ?k7 ?a8 ?l8 ?e8 ?k8 ?a9 ?l9 ?e9 ?k9 ?a10 ?l10 ?e10 ?k10 ?a11 ?l11 ?e11 ?k11 ?z0 ?z1 ?z2 ?z3 ?z4 ?z5 ?z6 ?z7
    (case a0 => k_is); (case l0 => k_is); (case e0 => k_is); (case k0 => k_is); (case a1 => k_is); (case l1 => k_is)
    (case e1 => k_is); (case k1 => k_is); (case a2 => k_is); (case l2 => k_is); (case e2 => k_is); (case k2 => k_is)
    (case a3 => k_is); (case l3 => k_is); (case e3 => k_is); (case k3 => k_is); (case a4 => k_is); (case l4 => k_is)
    (case e4 => k_is); (case k4 => k_is); (case a5 => k_is); (case l5 => k_is); (case e5 => k_is); (case k5 => k_is)
    (case a6 => k_is); (case l6 => k_is); (case e6 => k_is); (case k6 => k_is); (case a7 => k_is); (case l7 => k_is)
    (case e7 => k_is); (case k7 => k_is); (case a8 => k_is); (case l8 => k_is); (case e8 => k_is); (case k8 => k_is)
    (case a9 => k_is); (case l9 => k_is); (case e9 => k_is); (case k9 => k_is); (case a10 => k_is); (case l10 => k_is)
    (case e10 => k_is); (case k10 => k_is); (case a11 => k_is); (case l11 => k_is); (case e11 => k_is); (case k11 => k_is)
    (case z0 => k_is); (case z1 => k_is); (case z2 => k_is); (case z3 => k_is); (case z4 => k_is); (case z5 => k_is)
    (case z6 => k_is); (case z7 => k_is)
