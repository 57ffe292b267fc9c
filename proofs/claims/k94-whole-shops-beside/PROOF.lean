import PyProof.Rows.All
import KE.GoesNew
import HandS.CallLocal
import KE.DatumOrd
import HandS.SortKw
import HandS.Conv
import HandS.WordsDict
import Wide.All
import OpenK.AllK
import Wide.FinOn
import HandS.ForMost
import HandS.Wide
import HandS.NoneIn
import HandS.More
import HandS.TupAny
import HandS.IsInst
import HandS.Lambda
import KE.SortKeyHeap
import KE.KSortKey
import KE.SortData
import HandS.Nested
import HandS.EndTab
import HandS.Finally
import HandS.DictComp
import HandS.DeepEq
import HandS.Style
import HandS.Rev
import HandS.SortRule
import PyProof.Rows.StrMeet

import PySem.Challenge.RW_needplan_k94_whole_shops_beside
set_option Elab.async false
set_option linter.all false
set_option maxRecDepth 100000
set_option maxHeartbeats 4000000
/-! The value layer: readings of the hand layer told over plain data. -/
namespace VL
open PySem L2

/-- plain data; st is a list that is drawn from (its content is only known to be good) -/
inductive D where
  | non | bl (b : Bool) | int (i : Int) | str (x : Str)
  | tup (ds : List D) | lst (ds : List D) | ro (ds : List D) | dct (kvs : List (Key × D)) | lkd (a : Addr) (kvs : List (Key × D)) | st | cm | ptr (a : Addr) | ty (n : String)

/-- what a law's defs share: what a list that is drawn from must be; the table of a code object, if a lambda is made -/
structure Gs where
  good : List Int → Prop
  tab : Option Addr
def lamName : Str := "worked.<locals>.<lambda>"
/-- an object that may change, known by what is always true of it -/
def isMk : HO → Bool
  | .ext _ => true
  | .tbl _ => true
  | .rng _ _ => true
  | _ => false
def isTb : HO → Bool
  | .tbl _ => true
  | _ => false
def isLD : HO → Bool
  | .lst _ => true
  | .dK _ => true
  | _ => false
/-- an object that never changes -/
def hard : HO → Bool
  | .tup _ => true
  | .ext _ => true
  | .frz _ (.tup _) => true
  | _ => false
/-- what is on the way, always -/
def GoodP (ps : List (Int × Int)) : Prop := ps.length ≤ 12 ∧ ∀ p ∈ ps, (0 ≤ p.1 ∧ p.1 ≤ 400) ∧ (0 ≤ p.2 ∧ p.2 < 10 ^ 42)
section
variable (K : PySem.W.Frag) (G : Gs)
inductive PrsAt (H : Hp) : List V → List (Int × Int) → Prop
  | nil : PrsAt H [] []
  | cons {a : Addr} {xs : List V} {p : Int × Int} {ps : List (Int × Int)} : SqT K H a [.int p.1, .int p.2] → PrsAt H xs ps → PrsAt H (.ref a :: xs) (p :: ps)

mutual
inductive At (R : Hp) : V → D → Prop
  | non : At R .non .non
  | bl (b : Bool) : At R (.bl b) (.bl b)
  | int (i : Int) : At R (.int i) (.int i)
  | str (x : Str) : At R (.str x) (.str x)
  | tup {a : Addr} {xs : List V} {ds : List D} : SqT K R a xs → AtL R xs ds → At R (.ref a) (.tup ds)
  | lst {a : Addr} {xs : List V} {ds : List D} : R a = some (.lst xs) → AtL R xs ds → At R (.ref a) (.lst ds)
  | ro {a : Addr} {xs : List V} {ds : List D} : SqL K R a xs → AtL R xs ds → At R (.ref a) (.ro ds)
  | dct {a : Addr} {xs : List (Key × V)} {ds : List (Key × D)} : R a = some (.dK xs) → AtD R xs ds → At R (.ref a) (.dct ds)
  | lkd {a : Addr} {o : Obj} {xs : List (Key × V)} {ds : List (Key × D)} : R a = some (.frz o (.dK xs)) → AtD R xs ds → At R (.ref a) (.lkd a ds)
  | st {a : Addr} {φ : Heap → Prop} : R a = some (.ext φ) → At R (.ref a) .st
  | cm {a : Addr} {i j : Int} : R a = some (.rng i j) → At R (.ref a) .cm
  | ptr (a : Addr) : At R (.ref a) (.ptr a)
  | ty (n : String) : At R (.ty n) (.ty n)
inductive AtL (R : Hp) : List V → List D → Prop
  | nil : AtL R [] []
  | cons {v : V} {vs : List V} {d : D} {ds : List D} : At R v d → AtL R vs ds → AtL R (v :: vs) (d :: ds)
inductive AtD (R : Hp) : List (Key × V) → List (Key × D) → Prop
  | nil : AtD R [] []
  | cons {k : Key} {v : V} {vs : List (Key × V)} {d : D} {ds : List (Key × D)} : At R v d → AtD R vs ds → AtD R ((k, v) :: vs) ((k, d) :: ds)
end

/-- what R tells of a, H tells too; what R marks as drawn from is a good list -/
def SubAt (H : Hp) (a : Addr) : HO → Prop
  | .ext _ => ∃ ns : List Int, H a = some (.lst (ns.map V.int)) ∧ G.good ns
  | .tbl _ => LamX.TabS H a lamName
  | .rng _ _ => ∃ xs ps, H a = some (.lst xs) ∧ PrsAt K H xs ps ∧ GoodP ps
  | x => H a = some x
def Sub (R H : Hp) : Prop := ∀ a x, R a = some x → SubAt K G H a x

structure Step (R H R' H' : Hp) : Prop where
  same : Same R R'
  sub : Sub K G R' H'
  kept : ∀ a y, H a = some y → (∀ m, R a = some m → isMk m = false) → H' a = some y
  out : ∀ a y, H a = some y → hard y = false → R a = none → R' a = none

/-- the content of an object that the def alone knows -/
def MAt (R : Hp) : HO → D → Prop
  | .lst xs, .lst ds => AtL K R xs ds
  | .dK xs, .dct ds => AtD K R xs ds
  | _, _ => False

inductive Slot where
  | u | p (d : D) | mu (d : D) | hp (gs : List (Addr × D))
abbrev Vn := List Slot
/-- a value on the way: plain; an own new object; the object of a slot -/
inductive XV where
  | p (d : D) | o (d : D) | m (i : Nat) (d : D)

/-- the objects that a slot owns -/
def Slot.owns (s : Option (Option V)) (a : Addr) : Slot → Prop
  | .mu _ => s = some (some (.ref a))
  | .hp gs => a ∈ gs.map (·.1)
  | _ => False
def NoOwn (env : Vn) (σ : L2.St) (a : Addr) : Prop := ∀ (j : Nat) sl, env[j]? = some sl → ¬ Slot.owns σ[j]? a sl
/-- the state ahead of the def -/
structure Bs where
  R : Hp
  H : Hp
  /-- own objects that no slot holds, as they must stay -/
  pr : List (Addr × HO)

def SlotAt (B : Bs) (R H : Hp) (σ : L2.St) (i : Nat) : Slot → Prop
  | .u => True
  | .p d => ∃ v, σ[i]? = some (some v) ∧ At K R v d
  | .mu d => ∃ a y, σ[i]? = some (some (.ref a)) ∧ B.H a = none ∧ R a = none ∧ H a = some y ∧ MAt K R y d
  | .hp gs => ∀ q ∈ gs, B.H q.1 = none ∧ R q.1 = none ∧ ∃ y, H q.1 = some y ∧ MAt K R y q.2

structure Rep (B : Bs) (env : Vn) (σ : L2.St) (R H : Hp) : Prop where
  sub0 : Sub K G B.R B.H
  tab : ∀ P, G.tab = some P → ∃ ps, B.R P = some (.tbl ps)
  step : Step K G B.R B.H R H
  len : σ.length = env.length
  slots : ∀ (i : Nat) s, env[i]? = some s → SlotAt K B R H σ i s
  dist : ∀ (i j : Nat) si sj a, i ≠ j → env[i]? = some si → env[j]? = some sj → Slot.owns σ[i]? a si → ¬ Slot.owns σ[j]? a sj
  pr : ∀ q ∈ B.pr, B.H q.1 = none ∧ R q.1 = none ∧ H q.1 = some q.2 ∧ isLD q.2 = true ∧ NoOwn env σ q.1

def VAt (B : Bs) (env : Vn) (σ : L2.St) (R H : Hp) (v : V) : XV → Prop
  | .p d => At K R v d
  | .o d => ∃ a y, v = .ref a ∧ B.H a = none ∧ R a = none ∧ H a = some y ∧ MAt K R y d ∧ NoOwn env σ a ∧ ∀ q ∈ B.pr, q.1 ≠ a
  | .m i d => env[i]? = some (.mu d) ∧ σ[i]? = some (some v)

def VE (B : Bs) (t : TE) (env : Vn) (Q : XV → Prop) : Prop := ∀ σ R H, Rep K G B env σ R H → ∀ Qh : VK,
  (∀ v R' H' x, Rep K G B env σ R' H' → Same R R' → VAt K B env σ R' H' v x → Q x → Qh v H') → t σ H Qh
def VT (B : Bs) (t : TT) (env : Vn) (Q : Bool → Prop) : Prop := ∀ σ R H, Rep K G B env σ R H → ∀ Qh : Bool → Hp → Prop,
  (∀ b R' H', Rep K G B env σ R' H' → Same R R' → Q b → Qh b H') → t σ H Qh
/-- arguments: new objects are given away, slots' objects are only lent -/
def VAtL (B : Bs) (env : Vn) (σ : L2.St) (R H : Hp) : List V → List XV → Prop
  | [], [] => True
  | v :: vs, x :: xs => VAt K B env σ R H v x ∧ VAtL B env σ R H vs xs
  | _, _ => False
def XV.isO : XV → Bool
  | .o _ => true
  | _ => false
def XV.fz (x : XV) (k : XV → Prop) : Prop := match x with
  | .o d => k (.p d)
  | .p d => k (.p d)
  | .m i d => k (.m i d)
def VA (B : Bs) (t : TA) (env : Vn) (Q : List XV → Prop) : Prop := ∀ σ R H, Rep K G B env σ R H → ∀ Qh : List V → Hp → Prop,
  (∀ vs R' H' xs, Rep K G B env σ R' H' → Same R R' → VAtL K B env σ R' H' vs xs → (∀ x ∈ xs, x.isO = false) → Q xs → Qh vs H') → t σ H Qh
/-- an operation on two values -/
def VO (B : Bs) (r : V → V → Hp → VK → Prop) (env : Vn) (x y : XV) (Q : XV → Prop) : Prop := ∀ σ R H, Rep K G B env σ R H → ∀ v w, VAt K B env σ R H v x → VAt K B env σ R H w y → ∀ Qh : VK,
  (∀ z R' H' x', Rep K G B env σ R' H' → Same R R' → VAt K B env σ R' H' z x' → Q x' → Qh z H') → r v w H Qh
def VU (B : Bs) (r : V → Hp → VK → Prop) (env : Vn) (x : XV) (Q : XV → Prop) : Prop := ∀ σ R H, Rep K G B env σ R H → ∀ v, VAt K B env σ R H v x → ∀ Qh : VK,
  (∀ z R' H' x', Rep K G B env σ R' H' → Same R R' → VAt K B env σ R' H' z x' → Q x' → Qh z H') → r v H Qh
def VC (B : Bs) (r : List V → Hp → VK → Prop) (env : Vn) (xs : List XV) (Q : XV → Prop) : Prop := ∀ σ R H, Rep K G B env σ R H → ∀ vs, VAtL K B env σ R H vs xs → ∀ Qh : VK,
  (∀ z R' H' x', Rep K G B env σ R' H' → Same R R' → VAt K B env σ R' H' z x' → Q x' → Qh z H') → r vs H Qh
/-- a method of a value upon arguments -/
def VM (B : Bs) (r : V → List V → Hp → VK → Prop) (env : Vn) (x : XV) (xs : List XV) (Q : Vn → XV → Prop) : Prop := True

def VS (B : Bs) (t : TS) (env : Vn) (nx : Vn → Prop) (rt : XV → Prop) (bk ct : Vn → Prop) : Prop := ∀ σ R H, Rep K G B env σ R H → ∀ Z : Ends,
  (∀ env' σ' R' H', Rep K G B env' σ' R' H' → Same R R' → nx env' → Z.nx σ' H') →
  (∀ v env' σ' R' H' x, Rep K G B env' σ' R' H' → Same R R' → VAt K B env' σ' R' H' v x → rt x → Z.rt v H') →
  (∀ env' σ' R' H', Rep K G B env' σ' R' H' → Same R R' → bk env' → Z.bk σ' H') →
  (∀ env' σ' R' H', Rep K G B env' σ' R' H' → Same R R' → ct env' → Z.ct σ' H') → t Z σ H
/-- a target: what is bound is plain -/
def VG (B : Bs) (g : TG) (x : XV) (env : Vn) (Q : Vn → Prop) : Prop := ∀ σ R H, Rep K G B env σ R H → ∀ v, VAt K B env σ R H v x → ∀ Qh : L2.St → Hp → Prop,
  (∀ env' σ' R' H', Rep K G B env' σ' R' H' → Same R R' → Q env' → Qh σ' H') → g v σ H Qh
end

section
variable {K : PySem.W.Frag} {G : Gs} {B : Bs} {env : Vn} {σ : L2.St} {R R' R1 H H' H1 : Hp}

theorem same_rd {a : Addr} {u : HO} (e : Same R R') (h : Rd R a u) : Rd R' a u := by
  rcases h with h | ⟨o, h⟩
  · exact .inl (e _ _ h)
  · exact .inr ⟨o, e _ _ h⟩
theorem same_t {a : Addr} {xs : List V} (e : Same R R') (h : SqT K R a xs) : SqT K R' a xs := by
  rcases h with h | h
  · exact .inl (same_rd e h)
  · exact .inr h
theorem same_l {a : Addr} {xs : List V} (e : Same R R') (h : SqL K R a xs) : SqL K R' a xs := by
  rcases h with h | h
  · exact .inl (same_rd e h)
  · exact .inr h
mutual
theorem At.same (e : Same R R') : ∀ {v : V} {d : D}, At K R v d → At K R' v d
  | _, _, .non => .non
  | _, _, .bl b => .bl b
  | _, _, .int i => .int i
  | _, _, .str x => .str x
  | _, _, .tup h t => .tup (same_t e h) (AtL.same e t)
  | _, _, .lst h t => .lst (e _ _ h) (AtL.same e t)
  | _, _, .ro h t => .ro (same_l e h) (AtL.same e t)
  | _, _, .dct h t => .dct (e _ _ h) (AtD.same e t)
  | _, _, .lkd h t => .lkd (e _ _ h) (AtD.same e t)
  | _, _, .st h => .st (e _ _ h)
  | _, _, .cm h => .cm (e _ _ h)
  | _, _, .ptr a => .ptr a
  | _, _, .ty n => .ty n
theorem AtL.same (e : Same R R') : ∀ {vs : List V} {ds : List D}, AtL K R vs ds → AtL K R' vs ds
  | _, _, .nil => .nil
  | _, _, .cons h t => .cons (At.same e h) (AtL.same e t)
theorem AtD.same (e : Same R R') : ∀ {vs : List (Key × V)} {ds : List (Key × D)}, AtD K R vs ds → AtD K R' vs ds
  | _, _, .nil => .nil
  | _, _, .cons h t => .cons (At.same e h) (AtD.same e t)
end
theorem MAt.same (e : Same R R') {y : HO} {d : D} (h : MAt K R y d) : MAt K R' y d := by
  cases y <;> cases d <;> first | exact h.elim | exact AtL.same e h | exact AtD.same e h
theorem AtL.len : ∀ {vs : List V} {ds : List D}, AtL K R vs ds → vs.length = ds.length
  | _, _, .nil => rfl
  | _, _, .cons _ t => congrArg (· + 1) (AtL.len t)
theorem AtL.get : ∀ {vs : List V} {ds : List D} {i : Nat} {d : D}, AtL K R vs ds → ds[i]? = some d → ∃ v, vs[i]? = some v ∧ At K R v d
  | _, _, _, _, .nil, h => by simp at h
  | _, _, 0, _, .cons h _, e => by
    simp at e
    subst e
    exact ⟨_, rfl, h⟩
  | _, _, i + 1, _, .cons _ t, e => by
    obtain ⟨v, h1, h2⟩ := AtL.get (i := i) t (by simpa using e)
    exact ⟨v, by simpa using h1, h2⟩
theorem AtL.imp : ∀ {vs : List V} {ds : List D}, AtL K R vs ds → (∀ v d, d ∈ ds → At K R v d → At K R' v d) → AtL K R' vs ds
  | _, _, .nil, _ => .nil
  | _, _, .cons h t, f => .cons (f _ _ List.mem_cons_self h) (AtL.imp t fun v d hm => f v d (List.mem_cons_of_mem _ hm))
theorem AtD.imp : ∀ {vs : List (Key × V)} {ds : List (Key × D)}, AtD K R vs ds → (∀ v d, d ∈ ds.map (·.2) → At K R v d → At K R' v d) → AtD K R' vs ds
  | _, _, .nil, _ => .nil
  | _, _, .cons h t, f => .cons (f _ _ (by simp) h) (AtD.imp t fun v d hm => f v d (by simp at hm ⊢; exact .inr hm))
theorem AtL.app : ∀ {vs ws : List V} {ds es : List D}, AtL K R vs ds → AtL K R ws es → AtL K R (vs ++ ws) (ds ++ es)
  | _, _, _, _, .nil, s => s
  | _, _, _, _, .cons h t, s => .cons h (AtL.app t s)
theorem AtL.take : ∀ {vs : List V} {ds : List D} (n : Nat), AtL K R vs ds → AtL K R (vs.take n) (ds.take n)
  | _, _, 0, _ => .nil
  | _, _, _ + 1, .nil => .nil
  | _, _, n + 1, .cons h t => .cons h (AtL.take n t)
theorem AtL.drop : ∀ {vs : List V} {ds : List D} (n : Nat), AtL K R vs ds → AtL K R (vs.drop n) (ds.drop n)
  | _, _, 0, t => t
  | _, _, _ + 1, .nil => .nil
  | _, _, n + 1, .cons _ t => AtL.drop n t
theorem AtL.set {v : V} {d : D} (h : At K R v d) : ∀ {vs : List V} {ds : List D} (n : Nat), AtL K R vs ds → AtL K R (vs.set n v) (ds.set n d)
  | _, _, _, .nil => .nil
  | _, _, 0, .cons _ t => .cons h t
  | _, _, n + 1, .cons q t => .cons q (AtL.set h n t)
theorem AtL.erase : ∀ {vs : List V} {ds : List D} (n : Nat), AtL K R vs ds → AtL K R (vs.eraseIdx n) (ds.eraseIdx n)
  | _, _, _, .nil => .nil
  | _, _, 0, .cons _ t => t
  | _, _, n + 1, .cons h t => .cons h (AtL.erase n t)
theorem AtL.ints : ∀ (ns : List Int), AtL K R (ns.map V.int) (ns.map D.int)
  | [] => .nil
  | n :: r => .cons (.int n) (AtL.ints r)
theorem AtL.ints_inv : ∀ {vs : List V} {ns : List Int}, AtL K R vs (ns.map D.int) → vs = ns.map V.int
  | _, [], h => by cases h; rfl
  | _, n :: r, h => by
    cases h with
    | cons h t =>
      cases h
      rw [AtL.ints_inv t]
      rfl

/-! ### what marks tell stays -/
theorem hard_upd {a : Addr} {y : HO} (h : ∀ o, H a = some o → hard o = false) : ∀ c o, H c = some o → hard o = true → upd H a y c = some o := fun c o e q => by
  have hc : c ≠ a := fun z => by
    rw [z] at e
    rw [h o e] at q
    cases q
  rw [upd_ne hc]
  exact e
theorem hard_new {a : Addr} {y : HO} (h : H a = none) : ∀ c o, H c = some o → hard o = true → upd H a y c = some o := hard_upd fun o e => by
  rw [h] at e
  cases e
theorem hard_ld {o : HO} (h : isLD o = true) : hard o = false := by
  cases o <;> first | rfl | cases h
theorem mat_ld {y : HO} {d : D} (h : MAt K R y d) : isLD y = true := by
  cases y <;> cases d <;> first | rfl | exact h.elim
theorem ld_mk {o : HO} (h : isLD o = true) : isMk o = false := by
  cases o <;> first | rfl | cases h
theorem ld_tb {o : HO} (h : isLD o = true) : isTb o = false := by
  cases o <;> first | rfl | cases h
theorem hard_own {a : Addr} {y o : HO} (h : H a = some o) (q : isLD o = true) : ∀ c u, H c = some u → hard u = true → upd H a y c = some u := hard_upd fun u e => by
  rw [h] at e
  cases e
  exact hard_ld q
theorem sqt_hard {a : Addr} {xs : List V} (s : ∀ c o, H c = some o → hard o = true → H' c = some o) (h : SqT K H a xs) : SqT K H' a xs := by
  rcases h with (h | ⟨o, h⟩) | h
  · exact .inl (.inl (s _ _ h rfl))
  · exact .inl (.inr ⟨o, s _ _ h rfl⟩)
  · exact .inr h
theorem PrsAt.hard (s : ∀ c o, H c = some o → hard o = true → H' c = some o) : ∀ {xs : List V} {ps : List (Int × Int)}, PrsAt K H xs ps → PrsAt K H' xs ps
  | _, _, .nil => .nil
  | _, _, .cons h t => .cons (sqt_hard s h) (PrsAt.hard s t)
theorem subAt_go {b : Addr} {x : HO} (h : SubAt K G H b x) (e : H' b = H b) (s : ∀ c o, H c = some o → hard o = true → H' c = some o) : SubAt K G H' b x := by
  cases x with
  | ext φ =>
    obtain ⟨ns, q, g⟩ := h
    exact ⟨ns, e.trans q, g⟩
  | tbl ps =>
    obtain ⟨qs, h1, h2, h3⟩ := h
    refine ⟨qs, e.trans h1, h2, fun pos cv hc => ?_⟩
    obtain ⟨c, e1, e2⟩ := h3 pos cv hc
    exact ⟨c, e1, s _ _ e2 rfl⟩
  | rng i j =>
    obtain ⟨xs, ps, h1, h2, h3⟩ := h
    exact ⟨xs, ps, e.trans h1, h2.hard s, h3⟩
  | _ => exact e.trans h
theorem subAt_mk {b : Addr} {x : HO} (h : SubAt K G H b x) (hx : isMk x = false) : H b = some x := by
  cases x <;> first | exact h | cases hx
theorem subAt_of {b : Addr} {x : HO} (h : H b = some x) (hx : isMk x = false) : SubAt K G H b x := by
  cases x <;> first | exact h | cases hx
theorem Sub.none (s : Sub K G R H) {a : Addr} (h : H a = Option.none) : R a = Option.none := by
  cases e : R a with
  | none => rfl
  | some x =>
    have q := s a x e
    cases x with
    | ext φ => obtain ⟨ns, q, _⟩ := q; rw [h] at q; cases q
    | tbl ps => obtain ⟨qs, q, _⟩ := q; rw [h] at q; cases q
    | rng i j => obtain ⟨xs, ps, q, _⟩ := q; rw [h] at q; cases q
    | _ => have q : H a = some _ := q; rw [h] at q; cases q
theorem Sub.of (s : Sub K G R H) {a : Addr} {x : HO} (h : R a = some x) (hx : isMk x = false) : H a = some x := subAt_mk (s a x h) hx
theorem Sub.rd (s : Sub K G R H) {a : Addr} {x : HO} (h : Rd R a x) (hx : isMk x = false) : Rd H a x := by
  rcases h with h | ⟨o, h⟩
  · exact .inl (s.of h hx)
  · exact .inr ⟨o, s.of h rfl⟩
theorem Sub.t (s : Sub K G R H) {a : Addr} {xs : List V} (h : SqT K R a xs) : SqT K H a xs := by
  rcases h with h | h
  · exact .inl (s.rd h rfl)
  · exact .inr h
theorem Sub.l (s : Sub K G R H) {a : Addr} {xs : List V} (h : SqL K R a xs) : SqL K H a xs := by
  rcases h with h | h
  · exact .inl (s.rd h rfl)
  · exact .inr h
theorem no_mk {a : Addr} (n : R a = none) : ∀ m, R a = some m → isMk m = false := fun m z => by rw [n] at z; cases z
theorem Step.refl (s : Sub K G R H) : Step K G R H R H := ⟨Same.refl R, s, fun _ _ h _ => h, fun _ _ _ _ h => h⟩
theorem Step.nx (s : Step K G R H R1 H1) {a : Addr} (hx : ∀ m, R a = some m → isMk m = false) {y : HO} (h : H a = some y) : ∀ m, R1 a = some m → isMk m = false := fun m z => by
  cases e : R a with
  | none =>
    cases hy : hard y with
    | false =>
      rw [s.out a y h hy e] at z
      cases z
    | true =>
      have h1 := s.kept a y h (no_mk e)
      have q := s.sub a m z
      cases m with
      | ext φ => obtain ⟨ns, q, _⟩ := q; rw [h1] at q; cases q; cases hy
      | tbl ps => obtain ⟨qs, q, _⟩ := q; rw [h1] at q; cases q; cases hy
      | rng i j => obtain ⟨xs, ps, q, _⟩ := q; rw [h1] at q; cases q; cases hy
      | _ => rfl
  | some x =>
    rw [s.same a x e] at z
    cases z
    exact hx _ e
theorem Step.trans (s : Step K G R H R1 H1) (t : Step K G R1 H1 R' H') : Step K G R H R' H' where
  same := s.same.trans t.same
  sub := t.sub
  kept := fun a y h hx => t.kept a y (s.kept a y h hx) (s.nx hx h)
  out := fun a y h hd n => t.out a y (s.kept a y h (no_mk n)) hd (s.out a y h hd n)
theorem Step.fresh (s0 : Sub K G R H) (s : Step K G R H R' H') {a : Addr} (h : H' a = Option.none) : H a = Option.none := by
  cases e : H a with
  | none => rfl
  | some y =>
    cases e1 : R a with
    | none =>
      rw [s.kept a y e (no_mk e1)] at h
      cases h
    | some x =>
      have := s.sub.none h
      rw [s.same a x e1] at this
      cases this

theorem Rep.sub (r : Rep K G B env σ R H) : Sub K G R H := r.step.sub
/-- a step of a call that knows nothing of the slots' own objects -/
theorem Rep.go (r : Rep K G B env σ R H) (s : Step K G R H R' H') : Rep K G B env σ R' H' where
  sub0 := r.sub0
  tab := r.tab
  step := r.step.trans s
  len := r.len
  dist := r.dist
  pr := fun q hq => by
    obtain ⟨h1, h2, h3, h4⟩ := r.pr q hq
    exact ⟨h1, s.out _ _ h3 (hard_ld h4.1) h2, s.kept _ _ h3 (no_mk h2), h4⟩
  slots := fun i sl h => by
    have := r.slots i sl h
    cases sl with
    | u => trivial
    | p d =>
      obtain ⟨v, h1, h2⟩ := this
      exact ⟨v, h1, h2.same s.same⟩
    | mu d =>
      obtain ⟨a, y, h1, h2, h3, h4, h5⟩ := this
      exact ⟨a, y, h1, h2, s.out a y h4 (hard_ld (mat_ld h5)) h3, s.kept a y h4 (no_mk h3), h5.same s.same⟩
    | hp gs =>
      refine fun q hq => ?_
      obtain ⟨h2, h3, y, h4, h5⟩ := this q hq
      exact ⟨h2, s.out _ y h4 (hard_ld (mat_ld h5)) h3, y, s.kept _ y h4 (no_mk h3), h5.same s.same⟩
theorem Rep.fresh (r : Rep K G B env σ R H) {a : Addr} (h : H a = none) : B.H a = none := r.step.fresh r.sub0 h
/-- what a slot owns -/
theorem Rep.own (r : Rep K G B env σ R H) {j : Nat} {sl : Slot} {a : Addr} (h : env[j]? = some sl) (o : Slot.owns σ[j]? a sl) : B.H a = none ∧ R a = none ∧ ∃ y, H a = some y ∧ isLD y = true := by
  have := r.slots j sl h
  cases sl with
  | u => exact o.elim
  | p d => exact o.elim
  | mu d =>
    obtain ⟨b, y, h1, h2, h3, h4, h5⟩ := this
    have o' : σ[j]? = some (some (.ref a)) := o
    rw [h1] at o'
    cases o'
    exact ⟨h2, h3, y, h4, mat_ld h5⟩
  | hp gs =>
    obtain ⟨q, hq, e⟩ := List.mem_map.mp (show a ∈ gs.map (·.1) from o)
    obtain ⟨h2, h3, y, h4, h5⟩ := this q hq
    subst e
    exact ⟨h2, h3, y, h4, mat_ld h5⟩
theorem Rep.noslot (r : Rep K G B env σ R H) {a : Addr} (h : H a = none) : NoOwn env σ a := fun j sl q o => by
  obtain ⟨_, _, y, e, _⟩ := r.own q o
  rw [h] at e
  cases e
theorem Rep.nopr (r : Rep K G B env σ R H) {a : Addr} (h : H a = none) : ∀ q ∈ B.pr, q.1 ≠ a := fun q hq z => by
  have h3 := (r.pr q hq).2.2.1
  rw [z, h] at h3
  cases h3
/-- a new object that is nobody's yet -/
theorem sub_new (s : Sub K G R H) {a : Addr} {o : HO} (h : H a = none) : Sub K G R (upd H a o) := fun b x e => by
  have hb : b ≠ a := fun z => by
    subst z
    rw [s.none h] at e
    cases e
  exact subAt_go (s b x e) (upd_ne hb) (hard_new h)
theorem step_new (s : Sub K G R H) {a : Addr} {o : HO} (h : H a = none) : Step K G R H R (upd H a o) where
  same := Same.refl R
  sub := sub_new s h
  kept := fun b y e _ => by
    rw [upd_ne (ne_of_none e h)]
    exact e
  out := fun _ _ _ _ n => n
theorem Rep.new (r : Rep K G B env σ R H) {a : Addr} {o : HO} (h : H a = none) : Rep K G B env σ R (upd H a o) := r.go (step_new r.sub h)
/-- what was an own object becomes plain, or is marked -/
theorem sub_put (s : Sub K G R H) {a : Addr} {o : HO} (h : SubAt K G H a o) : Sub K G (upd R a o) H := fun b x e => by
  by_cases hb : b = a
  · subst hb
    rw [upd_same] at e
    cases e
    exact h
  · rw [upd_ne hb] at e
    exact s b x e
theorem same_take {a : Addr} {o : HO} (h : R a = none) : Same R (upd R a o) := fun b x e => by
  rw [upd_ne (ne_of_none e h)]
  exact e
theorem mat_mk {y : HO} {d : D} (h : MAt K R y d) : isMk y = false := ld_mk (mat_ld h)
theorem Rep.put (r : Rep K G B env σ R H) {a : Addr} {o : HO} (h : SubAt K G H a o) (h0 : B.H a = none) (hn : R a = none) (hs : NoOwn env σ a) (hp : ∀ q ∈ B.pr, q.1 ≠ a) : Rep K G B env σ (upd R a o) H where
  sub0 := r.sub0
  tab := r.tab
  step := {
    same := r.step.same.trans (same_take hn)
    sub := sub_put r.sub h
    kept := r.step.kept
    out := fun b y e hd n => by
      rw [upd_ne (ne_of_none e h0)]
      exact r.step.out b y e hd n }
  len := r.len
  dist := r.dist
  pr := fun q hq => by
    obtain ⟨h1, h2, h3, h4⟩ := r.pr q hq
    exact ⟨h1, by rw [upd_ne (hp q hq)]; exact h2, h3, h4⟩
  slots := fun i sl q => by
    have := r.slots i sl q
    cases sl with
    | u => trivial
    | p d =>
      obtain ⟨v, h1, h2⟩ := this
      exact ⟨v, h1, h2.same (same_take hn)⟩
    | mu d =>
      obtain ⟨b, y, h1, h2, h3, h4, h5⟩ := this
      have hb : b ≠ a := fun z => by
        subst z
        exact hs i _ q h1
      exact ⟨b, y, h1, h2, by rw [upd_ne hb]; exact h3, h4, h5.same (same_take hn)⟩
    | hp gs =>
      refine fun g hg => ?_
      obtain ⟨h2, h3, y, h4, h5⟩ := this g hg
      have hb : g.1 ≠ a := fun z => hs i _ q (show a ∈ gs.map (·.1) from List.mem_map.mpr ⟨g, hg, z⟩)
      exact ⟨h2, by rw [upd_ne hb]; exact h3, y, h4, h5.same (same_take hn)⟩
theorem Rep.take (r : Rep K G B env σ R H) {a : Addr} {o : HO} (h : H a = some o) (hx : isMk o = false) (h0 : B.H a = none) (hn : R a = none) (hs : NoOwn env σ a) (hp : ∀ q ∈ B.pr, q.1 ≠ a) : Rep K G B env σ (upd R a o) H := r.put (subAt_of h hx) h0 hn hs hp
theorem At.of_mat {a : Addr} {y : HO} {d : D} (h : MAt K R y d) (hn : R a = none) : At K (upd R a y) (.ref a) d := by
  cases y <;> cases d <;> first
    | exact h.elim
    | exact .lst upd_same (AtL.same (same_take hn) h)
    | exact .dct upd_same (AtD.same (same_take hn) h)

theorem VAt.go {v : V} {x : XV} (h : VAt K B env σ R H v x) (hx : x.isO = false) (s : Same R R') : VAt K B env σ R' H' v x := by
  cases x with
  | p d => exact At.same s h
  | o d => cases hx
  | m i d => exact h
theorem VAtL.go : ∀ {vs : List V} {xs : List XV}, VAtL K B env σ R H vs xs → (∀ x ∈ xs, x.isO = false) → Same R R' → VAtL K B env σ R' H' vs xs
  | [], [], _, _, _ => trivial
  | [], _ :: _, h, _, _ => h.elim
  | _ :: _, [], h, _, _ => h.elim
  | _ :: _, _ :: _, h, hx, s => ⟨h.1.go (hx _ List.mem_cons_self) s, VAtL.go h.2 (fun x q => hx x (List.mem_cons_of_mem _ q)) s⟩
/-- a value is given away -/
theorem VAt.fz {v : V} {x : XV} {k : XV → Prop} (r : Rep K G B env σ R H) (h : VAt K B env σ R H v x) (q : x.fz k) : ∃ R' x', Rep K G B env σ R' H ∧ Same R R' ∧ VAt K B env σ R' H v x' ∧ x'.isO = false ∧ k x' := by
  cases x with
  | p d => exact ⟨R, .p d, r, Same.refl R, h, rfl, q⟩
  | m i d => exact ⟨R, .m i d, r, Same.refl R, h, rfl, q⟩
  | o d =>
    obtain ⟨a, y, rfl, h0, hn, hy, hm, hs, hp⟩ := h
    exact ⟨upd R a y, .p d, r.take hy (mat_mk hm) h0 hn hs hp, same_take hn, At.of_mat hm hn, rfl, q⟩
theorem fz_p {d : D} {k : XV → Prop} (q : k (.p d)) : XV.fz (.p d) k := q
theorem fz_o {d : D} {k : XV → Prop} (q : k (.p d)) : XV.fz (.o d) k := q
theorem fz_m {i : Nat} {d : D} {k : XV → Prop} (q : k (.m i d)) : XV.fz (.m i d) k := q

/-! ### expressions -/
variable {Q : XV → Prop}
theorem ve_var {i : Nat} {d : D} (h : env[i]? = some (.p d)) (q : Q (.p d)) : VE K G B (tVar i) env Q := fun σ R H r Qh k => by
  obtain ⟨v, h1, h2⟩ := r.slots i _ h
  exact ⟨v, h1, k v R H (.p d) r (Same.refl R) h2 q⟩
theorem ve_varm {i : Nat} {d : D} (h : env[i]? = some (.mu d)) (q : Q (.m i d)) : VE K G B (tVar i) env Q := fun σ R H r Qh k => by
  obtain ⟨a, y, h1, _⟩ := r.slots i _ h
  exact ⟨_, h1, k _ R H (.m i d) r (Same.refl R) ⟨h, h1⟩ q⟩
theorem ve_int {i : Int} (q : Q (.p (.int i))) : VE K G B (tC (.int i)) env Q := fun σ R H r Qh k => k _ R H (.p (.int i)) r (Same.refl R) (At.int i) q
theorem ve_str {i : Str} (q : Q (.p (.str i))) : VE K G B (tC (.str i)) env Q := fun σ R H r Qh k => k _ R H (.p (.str i)) r (Same.refl R) (At.str i) q
theorem ve_bl {i : Bool} (q : Q (.p (.bl i))) : VE K G B (tC (.bl i)) env Q := fun σ R H r Qh k => k _ R H (.p (.bl i)) r (Same.refl R) (At.bl i) q
theorem ve_non (q : Q (.p .non)) : VE K G B (tC .non) env Q := fun σ R H r Qh k => k _ R H (.p .non) r (Same.refl R) At.non q
theorem ve_op {r : R2} {ta tb : TE} (h : VE K G B ta env fun x => x.fz fun x => VE K G B tb env fun y => y.fz fun y => VO K G B r env x y Q) : VE K G B (tOp r ta tb) env Q := fun σ R H rp Qh k =>
  h σ R H rp _ fun v R1 H1 x r1 s1 hv q => by
    obtain ⟨R2, x', r2, s2, hv2, ho, q2⟩ := hv.fz r1 q
    refine q2 σ R2 H1 r2 _ fun w R3 H3 y r3 s3 hw q3 => ?_
    obtain ⟨R4, y', r4, s4, hw4, ho4, q4⟩ := hw.fz r3 q3
    exact q4 σ R4 H3 r4 v w (hv2.go ho (s3.trans s4)) hw4 Qh fun z R5 H5 x5 r5 s5 hz q5 => k z R5 H5 x5 r5 (((((s1.trans s2).trans s3).trans s4)).trans s5) hz q5
theorem ve_un {r : V → Hp → VK → Prop} {ta : TE} (h : VE K G B ta env fun x => x.fz fun x => VU K G B r env x Q) : VE K G B (tUn r ta) env Q := fun σ R H rp Qh k =>
  h σ R H rp _ fun v R1 H1 x r1 s1 hv q => by
    obtain ⟨R2, x', r2, s2, hv2, ho, q2⟩ := hv.fz r1 q
    exact q2 σ R2 H1 r2 v hv2 Qh fun z R5 H5 x5 r5 s5 hz q5 => k z R5 H5 x5 r5 ((s1.trans s2).trans s5) hz q5
theorem va_nil {Q : List XV → Prop} (q : Q []) : VA K G B tNil env Q := fun σ R H rp Qh k => k [] R H [] rp (Same.refl R) trivial (fun _ h => by cases h) q
theorem va_cons {Q : List XV → Prop} {ta : TE} {tr : TA} (h : VE K G B ta env fun x => x.fz fun x => VA K G B tr env fun xs => Q (x :: xs)) : VA K G B (tCons ta tr) env Q := fun σ R H rp Qh k =>
  h σ R H rp _ fun v R1 H1 x r1 s1 hv q => by
    obtain ⟨R2, x', r2, s2, hv2, ho, q2⟩ := hv.fz r1 q
    refine q2 σ R2 H1 r2 _ fun vs R3 H3 xs r3 s3 hvs hx q3 => ?_
    exact k (v :: vs) R3 H3 (x' :: xs) r3 ((s1.trans s2).trans s3) ⟨hv2.go ho s3, hvs⟩ (fun y hy => by
      rcases List.mem_cons.mp hy with rfl | hy
      · exact ho
      · exact hx y hy) q3
theorem ve_cb {r : List V → Hp → VK → Prop} {t : TA} (h : VA K G B t env fun xs => VC K G B r env xs Q) : VE K G B (tCB r t) env Q := fun σ R H rp Qh k =>
  h σ R H rp _ fun vs R1 H1 xs r1 s1 hv _ q => q σ R1 H1 r1 vs hv Qh fun z R5 H5 x5 r5 s5 hz q5 => k z R5 H5 x5 r5 (s1.trans s5) hz q5

/-! ### calls of defs -/
/-- the table is known -/
def TabIn (G : Gs) (R : Hp) : Prop := ∀ P, G.tab = some P → ∃ ps, R P = some (.tbl ps)
theorem TabIn.go (t : TabIn G R) (s : Same R R') : TabIn G R' := fun P e => by
  obtain ⟨ps, h⟩ := t P e
  exact ⟨ps, s P _ h⟩
theorem Rep.tab' (r : Rep K G B env σ R H) : TabIn G R := TabIn.go (R := B.R) r.tab r.step.same
/-- the promise of a def: args and result are plain data; fr: the result is a new object; rs: the classes that may be raised -/
def SpA (K : PySem.W.Frag) (G : Gs) {α : Type} (fr : Bool) (args : α → List D) (pre : α → Prop) (post : α → D → Prop) (rs : α → Addr → Prop) : Sp := fun vs H Q E =>
  ∃ R x, (Sub K G R H ∧ TabIn G R) ∧ AtL K R vs (args x) ∧ pre x ∧
    (∀ v R' H' d, Step K G R H R' H' → At K R' v d → (fr = true → ∃ a, v = .ref a ∧ H a = none ∧ ∀ o u, R' a ≠ some (.frz o u)) → post x d → Q v H') ∧
    (∀ C R' H', Step K G R H R' H' → rs x C → E (.ref C) none H')
abbrev noRs {α : Type} : α → Addr → Prop := fun _ _ => False
def XV.plain : XV → Option D
  | .p d => some d
  | _ => none
theorem atL_of : ∀ {vs : List V} {ds : List D}, VAtL K B env σ R H vs (ds.map XV.p) → AtL K R vs ds
  | [], [], _ => .nil
  | [], _ :: _, h => h.elim
  | _ :: _, [], h => h.elim
  | _ :: _, _ :: _, h => .cons h.1 (atL_of h.2)
/-- what the def may raise, goes on -/
def Lets (K : PySem.W.Frag) (G : Gs) (B : Bs) (E : XK) (X : Addr → Prop) : Prop := ∀ C R' H', Step K G B.R B.H R' H' → X C → E (.ref C) none H'
theorem lets_none {E : XK} : Lets K G B E fun _ => False := fun _ _ _ _ h => h.elim
theorem ve_call {α : Type} {fr : Bool} {args : α → List D} {pre : α → Prop} {post : α → D → Prop} {rs : α → Addr → Prop} {E : XK} {X : Addr → Prop} {t : TA} (L : Lets K G B E X)
    (h : VA K G B t env fun xs => ∃ x, xs = (args x).map XV.p ∧ pre x ∧ (∀ C, rs x C → X C) ∧ ∀ d, post x d → Q (.p d)) : VE K G B (tCall (SpA K G fr args pre post rs) [] E t) env Q := fun σ R H rp Qh k =>
  h σ R H rp _ fun vs R1 H1 xs r1 s1 hv _ ⟨x, e, hp, hr, q⟩ => by
    subst e
    rw [List.append_nil]
    exact ⟨R1, x, ⟨r1.sub, r1.tab'⟩, atL_of hv, hp, fun v R' H' d s ha _ hd => k v R' H' (.p d) (r1.go s) (s1.trans s.same) ha (q d hd), fun C R' H' s hc => L C R' H' (r1.step.trans s) (hr C hc)⟩
/-- no list or dict within -/
def D.deepT : Nat → D → Bool
  | 0, _ => false
  | n + 1, d => match d with
    | .tup ds => ds.all (D.deepT n)
    | .lst _ => false
    | .ro _ => false
    | .dct _ => false
    | .lkd _ _ => false
    | _ => true
def D.flat (d : D) : Bool := match d with
  | .lst ds => ds.all (D.deepT 9)
  | .dct kvs => kvs.all fun p => D.deepT 9 p.2
  | d => D.deepT 9 d
def without (R : Hp) (a : Addr) : Hp := fun b => if b = a then none else R b
theorem without_ne {a b : Addr} (h : b ≠ a) : without R a b = R b := by unfold without; rw [if_neg h]
theorem without_same {a : Addr} : without R a a = none := by unfold without; rw [if_pos rfl]
theorem at_without {a : Addr} {y : HO} (ha : R a = some y) (hy : isLD y = true) : ∀ (n : Nat) {v : V} {d : D}, D.deepT n d = true → At K R v d → At K (without R a) v d := by
  intro n
  induction n with
  | zero => intro v d h _; cases h
  | succ n ih =>
    intro v d h t
    cases t with
    | non => exact .non
    | bl b => exact .bl b
    | int i => exact .int i
    | str x => exact .str x
    | @tup b xs ds hs ht =>
      refine .tup (xs := xs) ?_ ?_
      · rcases hs with (hs | ⟨o, hs⟩) | hs
        · refine .inl (.inl ?_)
          rw [without_ne]
          · exact hs
          · rintro rfl
            rw [ha] at hs
            cases hs
            cases hy
        · refine .inl (.inr ⟨o, ?_⟩)
          rw [without_ne]
          · exact hs
          · rintro rfl
            rw [ha] at hs
            cases hs
            cases hy
        · exact .inr hs
      · have hd : ∀ d ∈ ds, D.deepT n d = true := List.all_eq_true.mp h
        exact ht.imp fun v d hm => ih (hd d hm)
    | lst _ _ => cases h
    | ro _ _ => cases h
    | dct _ _ => cases h
    | lkd _ _ => cases h
    | ty n => exact .ty n
    | @st b φ hs =>
      refine .st (φ := φ) ?_
      rw [without_ne]
      · exact hs
      · rintro rfl
        rw [ha] at hs
        cases hs
        cases hy
    | ptr b => exact .ptr b
    | @cm b i j hs =>
      refine .cm (i := i) (j := j) ?_
      rw [without_ne]
      · exact hs
      · rintro rfl
        rw [ha] at hs
        cases hs
        cases hy

theorem AtL.without {a : Addr} {y : HO} (ha : R a = some y) (hy : isLD y = true) {n : Nat} {vs : List V} {ds : List D} (h : ds.all (D.deepT n) = true) (t : AtL K R vs ds) : AtL K (without R a) vs ds :=
  t.imp fun v d hm => at_without ha hy n (List.all_eq_true.mp h d hm)
theorem AtD.without {a : Addr} {y : HO} (ha : R a = some y) (hy : isLD y = true) {n : Nat} {vs : List (Key × V)} {ds : List (Key × D)} (h : (ds.all fun p => D.deepT n p.2) = true) (t : AtD K R vs ds) : AtD K (without R a) vs ds :=
  t.imp fun v d hm => at_without ha hy n (by
    obtain ⟨p, hp, rfl⟩ := List.mem_map.mp hm
    exact List.all_eq_true.mp h p hp)
/-- a step of a call whose result is a new object that is kept apart -/
theorem Rep.goW (r : Rep K G B env σ R H) (s : Step K G R H R' H') {a : Addr} (h : H a = none) : Rep K G B env σ (without R' a) H' where
  sub0 := r.sub0
  tab := r.tab
  step := {
    same := fun b x e => by
      rw [without_ne]
      · exact (r.step.trans s).same b x e
      · rintro rfl
        rw [r.sub0.none (r.fresh h)] at e
        cases e
    sub := fun b x e => by
      by_cases hb : b = a
      · subst hb
        rw [without_same] at e
        cases e
      · rw [without_ne hb] at e
        exact s.sub b x e
    kept := (r.step.trans s).kept
    out := fun b y e hd n => by
      by_cases hb : b = a
      · subst hb
        exact without_same
      · rw [without_ne hb]
        exact (r.step.trans s).out b y e hd n }
  len := r.len
  dist := r.dist
  pr := fun q hq => by
    obtain ⟨h1, h2, h3, h4⟩ := (r.go s).pr q hq
    exact ⟨h1, by rw [without_ne (r.nopr h q hq)]; exact h2, h3, h4⟩
  slots := fun i sl q => by
    have same : Same R (without R' a) := fun b x e => by
      rw [without_ne]
      · exact s.same b x e
      · rintro rfl
        rw [r.sub.none h] at e
        cases e
    have := r.slots i sl q
    cases sl with
    | u => trivial
    | p d =>
      obtain ⟨v, h1, h2⟩ := this
      exact ⟨v, h1, h2.same same⟩
    | mu d =>
      obtain ⟨b, y, h1, h2, h3, h4, h5⟩ := this
      have hb : b ≠ a := ne_of_none h4 h
      exact ⟨b, y, h1, h2, by rw [without_ne hb]; exact s.out b y h4 (hard_ld (mat_ld h5)) h3, s.kept b y h4 (no_mk h3), h5.same same⟩
    | hp gs =>
      refine fun g hg => ?_
      obtain ⟨h2, h3, y, h4, h5⟩ := this g hg
      have hb : g.1 ≠ a := ne_of_none h4 h
      exact ⟨h2, by rw [without_ne hb]; exact s.out _ y h4 (hard_ld (mat_ld h5)) h3, y, s.kept _ y h4 (no_mk h3), h5.same same⟩
theorem Rep.sameW (r : Rep K G B env σ R H) (s : Step K G R H R' H') {a : Addr} (h : H a = none) : Same R (without R' a) := fun b x e => by
  rw [without_ne]
  · exact s.same b x e
  · rintro rfl
    rw [r.sub.none h] at e
    cases e
/-- a call whose result is a new list or dict of plain things, kept as one's own -/
theorem ve_callO {α : Type} {args : α → List D} {pre : α → Prop} {post : α → D → Prop} {rs : α → Addr → Prop} {E : XK} {X : Addr → Prop} {t : TA} (L : Lets K G B E X)
    (h : VA K G B t env fun xs => ∃ x, xs = (args x).map XV.p ∧ pre x ∧ (∀ C, rs x C → X C) ∧ ∀ d, post x d → D.flat d = true ∧ ((∃ ds, d = .lst ds) ∨ ∃ ds, d = .dct ds) ∧ Q (.o d)) : VE K G B (tCall (SpA K G true args pre post rs) [] E t) env Q := fun σ R H rp Qh k =>
  h σ R H rp _ fun vs R1 H1 xs r1 s1 hv _ ⟨x, e, hp, hr, q⟩ => by
    subst e
    rw [List.append_nil]
    refine ⟨R1, x, ⟨r1.sub, r1.tab'⟩, atL_of hv, hp, fun v R' H' d s ha hf hd => ?_, fun C R' H' s hc => L C R' H' (r1.step.trans s) (hr C hc)⟩
    obtain ⟨a, rfl, hn, hz⟩ := hf rfl
    obtain ⟨fl, ld, q⟩ := q d hd
    refine k (.ref a) (VL.without R' a) H' (.o d) (r1.goW s hn) (s1.trans (r1.sameW s hn)) ?_ q
    rcases ld with ⟨ds, rfl⟩ | ⟨ds, rfl⟩
    · cases ha with
      | lst h1 h2 => exact ⟨a, _, rfl, r1.fresh hn, without_same, s.sub.of h1 rfl, AtL.without h1 rfl fl h2, r1.noslot hn, r1.nopr hn⟩
    · cases ha with
      | @dct _ xs _ h1 h2 => exact ⟨a, _, rfl, r1.fresh hn, without_same, s.sub.of h1 rfl, AtD.without h1 rfl fl h2, r1.noslot hn, r1.nopr hn⟩

/-! ### slots -/
theorem Rep.set (r : Rep K G B env σ R H) {i : Nat} {sl : Slot} {v : V} (hi : i < env.length) (h : SlotAt K B R H (σ.set i (some v)) i sl)
    (hm : ∀ a, Slot.owns (some (some v)) a sl → NoOwn env σ a ∧ ∀ q ∈ B.pr, q.1 ≠ a) : Rep K G B (env.set i sl) (σ.set i (some v)) R H where
  sub0 := r.sub0
  tab := r.tab
  step := r.step
  len := by rw [List.length_set, List.length_set]; exact r.len
  slots := fun j s q => by
    by_cases e : i = j
    · subst e
      rw [List.getElem?_set_self hi] at q
      cases q
      exact h
    · rw [List.getElem?_set_ne e] at q
      have := r.slots j s q
      cases s with
      | u => trivial
      | p d =>
        obtain ⟨w, h1, h2⟩ := this
        exact ⟨w, by rw [List.getElem?_set_ne e]; exact h1, h2⟩
      | mu d =>
        obtain ⟨a, y, h1, h2⟩ := this
        exact ⟨a, y, by rw [List.getElem?_set_ne e]; exact h1, h2⟩
      | hp gs => exact this
  dist := fun j k sj sk a hjk hj hk => by
    have hs : i < σ.length := by rw [r.len]; exact hi
    by_cases ej : i = j
    · subst ej
      rw [List.getElem?_set_self hi] at hj
      have ek : ¬ i = k := hjk
      rw [List.getElem?_set_ne ek] at hk
      rw [List.getElem?_set_self hs, List.getElem?_set_ne ek]
      cases hj
      exact fun o => (hm a o).1 k _ hk
    · rw [List.getElem?_set_ne ej] at hj
      by_cases ek : i = k
      · subst ek
        rw [List.getElem?_set_self hi] at hk
        rw [List.getElem?_set_self hs, List.getElem?_set_ne ej]
        cases hk
        exact fun o o' => (hm a o').1 j _ hj o
      · rw [List.getElem?_set_ne ek] at hk
        rw [List.getElem?_set_ne ek, List.getElem?_set_ne ej]
        exact r.dist j k sj sk a hjk hj hk
  pr := fun q hq => by
    obtain ⟨h1, h2, h3, h0, h4⟩ := r.pr q hq
    refine ⟨h1, h2, h3, h0, fun j e hj => ?_⟩
    have hs : i < σ.length := by rw [r.len]; exact hi
    by_cases ej : i = j
    · subst ej
      rw [List.getElem?_set_self hi] at hj
      cases hj
      rw [List.getElem?_set_self hs]
      exact fun z => (hm _ z).2 q hq rfl
    · rw [List.getElem?_set_ne ej] at hj ⊢
      exact h4 j e hj
theorem noOwn_u {s : Option (Option V)} {P : Addr → Prop} : ∀ a, Slot.owns s a .u → P a := fun _ h => h.elim
theorem noOwn_p {s : Option (Option V)} {d : D} {P : Addr → Prop} : ∀ a, Slot.owns s a (.p d) → P a := fun _ h => h.elim
theorem Rep.ilt (r : Rep K G B env σ R H) {i : Nat} (hi : i < env.length) : i < σ.length := by rw [r.len]; exact hi

/-! ### targets -/
variable {nx : Vn → Prop} {rt : XV → Prop} {bk ct : Vn → Prop} {Qe : Vn → Prop}
theorem vg_p {i : Nat} {d : D} (hi : i < env.length) (q : Qe (env.set i (.p d))) : VG K G B (gName i) (.p d) env Qe := fun σ R H r v hv Qh k =>
  k _ _ R H (r.set (sl := .p d) hi ⟨v, List.getElem?_set_self (r.ilt hi), hv⟩ noOwn_p) (Same.refl R) q
theorem vg_o {i : Nat} {d : D} (hi : i < env.length) (q : Qe (env.set i (.mu d))) : VG K G B (gName i) (.o d) env Qe := fun σ R H r v hv Qh k => by
  obtain ⟨a, y, rfl, h1, h2, h3, h4, h5, h6⟩ := hv
  exact k _ _ R H (r.set (sl := .mu d) hi ⟨a, y, List.getElem?_set_self (r.ilt hi), h1, h2, h3, h4⟩ fun b z => by
    have z' : (some (some (V.ref a)) : Option (Option V)) = some (some (.ref b)) := z
    cases z'
    exact ⟨h5, h6⟩) (Same.refl R) q
def VGs (K : PySem.W.Frag) (G : Gs) (B : Bs) (g : TGs) (ds : List D) (env : Vn) (Q : Vn → Prop) : Prop := ∀ σ R H, Rep K G B env σ R H → ∀ vs, AtL K R vs ds → ∀ Qh : L2.St → Hp → Prop,
  (∀ env' σ' R' H', Rep K G B env' σ' R' H' → Same R R' → Q env' → Qh σ' H') → g vs σ H Qh
theorem vgs_nil (q : Qe env) : VGs K G B gNil [] env Qe := fun σ R H r vs hv Qh k => by
  cases hv
  exact ⟨rfl, k _ _ _ _ r (Same.refl R) q⟩
theorem vgs_cons {t : TG} {u : TGs} {d : D} {ds : List D} (h : VG K G B t (.p d) env fun e => VGs K G B u ds e Qe) : VGs K G B (gCons t u) (d :: ds) env Qe := fun σ R H r vs hv Qh k => by
  cases hv with
  | @cons v vs _ _ h1 h2 =>
    exact ⟨v, vs, rfl, h σ R H r v h1 _ fun e' σ' R' H' r' s' q => q σ' R' H' r' vs (h2.same s') Qh fun e2 σ2 R2 H2 r2 s2 q2 => k e2 σ2 R2 H2 r2 (s'.trans s2) q2⟩
theorem vg_tup {n : Nat} {t : TGs} {ds : List D} (hn : ds.length = n) (h : VGs K G B t ds env Qe) : VG K G B (gTup K n t) (.p (.tup ds)) env Qe := fun σ R H r v hv Qh k => by
  cases hv with
  | @tup a xs _ h1 h2 => exact ⟨a, xs, rfl, r.sub.t h1, by rw [h2.len]; exact hn, h σ R H r xs h2 Qh k⟩
theorem vg_lst {n : Nat} {t : TGs} {ds : List D} (hn : ds.length = n) (h : VGs K G B t ds env Qe) : VG K G B (gUnl K n t) (.p (.lst ds)) env Qe := fun σ R H r v hv Qh k => by
  cases hv with
  | @lst a xs _ h1 h2 => exact ⟨a, xs, rfl, r.sub.l (.inl (.inl h1)), by rw [h2.len]; exact hn, h σ R H r xs h2 Qh k⟩

/-! ### statements -/
theorem vs_next (q : nx env) : VS K G B tNext env nx rt bk ct := fun σ R H r Z kn _ _ _ => kn env σ R H r (Same.refl R) q
theorem vs_break (q : bk env) : VS K G B tBreak env nx rt bk ct := fun σ R H r Z _ _ kb _ => kb env σ R H r (Same.refl R) q
theorem vs_cont (q : ct env) : VS K G B tCont env nx rt bk ct := fun σ R H r Z _ _ _ kc => kc env σ R H r (Same.refl R) q
theorem vs_seq {t u : TS} (h : VS K G B t env (fun e => VS K G B u e nx rt bk ct) rt bk ct) : VS K G B (tSeq t u) env nx rt bk ct := fun σ R H r Z kn kr kb kc =>
  h σ R H r { Z with nx := u Z } (fun e' σ' R' H' r' s' q => q σ' R' H' r' Z (fun e2 σ2 R2 H2 r2 s2 q2 => kn e2 σ2 R2 H2 r2 (s'.trans s2) q2) (fun v e2 σ2 R2 H2 x r2 s2 hv q2 => kr v e2 σ2 R2 H2 x r2 (s'.trans s2) hv q2)
    (fun e2 σ2 R2 H2 r2 s2 q2 => kb e2 σ2 R2 H2 r2 (s'.trans s2) q2) (fun e2 σ2 R2 H2 r2 s2 q2 => kc e2 σ2 R2 H2 r2 (s'.trans s2) q2)) kr kb kc
theorem vs_mid {t u : TS} (M : Vn → Prop) (h : VS K G B t env M rt bk ct) (h2 : ∀ e, M e → VS K G B u e nx rt bk ct) : VS K G B (tSeq t u) env nx rt bk ct :=
  vs_seq fun σ R H r Z kn kr kb kc => h σ R H r Z (fun e σ' R' H' r' s' q => kn e σ' R' H' r' s' (h2 e q)) kr kb kc
theorem vs_ret {te : TE} (h : VE K G B te env rt) : VS K G B (tRet te) env nx rt bk ct := fun σ R H r Z _ kr _ _ => h σ R H r _ fun v R' H' x r' s' hv q => kr v env σ R' H' x r' s' hv q
theorem vs_retN (q : rt (.p .non)) : VS K G B tRetN env nx rt bk ct := fun σ R H r Z _ kr _ _ => kr _ env σ R H (.p .non) r (Same.refl R) At.non q
theorem vs_expr {te : TE} (h : VE K G B te env fun _ => nx env) : VS K G B (tDrop te) env nx rt bk ct := fun σ R H r Z kn _ _ _ => h σ R H r _ fun v R' H' x r' s' hv q => kn env σ R' H' r' s' q
theorem vs_if {c : TT} {t u : TS} (h : VT K G B c env fun b => (b = true → VS K G B t env nx rt bk ct) ∧ (b = false → VS K G B u env nx rt bk ct)) : VS K G B (tIfS c t u) env nx rt bk ct := fun σ R H r Z kn kr kb kc =>
  h σ R H r _ fun b R' H' r' s' q => by
    have kn' : ∀ env' σ' R'' H', Rep K G B env' σ' R'' H' → Same R' R'' → nx env' → Z.nx σ' H' := fun e σ2 R2 H2 r2 s2 q2 => kn e σ2 R2 H2 r2 (s'.trans s2) q2
    have kr' : ∀ v env' σ' R'' H' x, Rep K G B env' σ' R'' H' → Same R' R'' → VAt K B env' σ' R'' H' v x → rt x → Z.rt v H' := fun v e σ2 R2 H2 x r2 s2 hv q2 => kr v e σ2 R2 H2 x r2 (s'.trans s2) hv q2
    have kb' : ∀ env' σ' R'' H', Rep K G B env' σ' R'' H' → Same R' R'' → bk env' → Z.bk σ' H' := fun e σ2 R2 H2 r2 s2 q2 => kb e σ2 R2 H2 r2 (s'.trans s2) q2
    have kc' : ∀ env' σ' R'' H', Rep K G B env' σ' R'' H' → Same R' R'' → ct env' → Z.ct σ' H' := fun e σ2 R2 H2 r2 s2 q2 => kc e σ2 R2 H2 r2 (s'.trans s2) q2
    cases b with
    | true =>
      show t Z σ H'
      exact q.1 rfl σ R' H' r' Z kn' kr' kb' kc'
    | false =>
      show u Z σ H'
      exact q.2 rfl σ R' H' r' Z kn' kr' kb' kc'
theorem vs_asg {te : TE} {g : TG} (h : VE K G B te env fun x => VG K G B g x env nx) : VS K G B (tAsg te g) env nx rt bk ct := fun σ R H r Z kn _ _ _ =>
  h σ R H r _ fun v R' H' x r' s' hv q => q σ R' H' r' v hv _ fun e2 σ2 R2 H2 r2 s2 q2 => kn e2 σ2 R2 H2 r2 (s'.trans s2) q2
theorem vs_aug {i : Nat} {te : TE} {ti : TIp} {d : D} (hd : env[i]? = some (.p d)) (h : VE K G B te env fun y => y.fz fun y => VO K G B ti env (.p d) y fun z => VG K G B (gName i) z env nx) : VS K G B (tAug i te ti) env nx rt bk ct := fun σ R H r Z kn _ _ _ => by
  obtain ⟨x, h1, h2⟩ := r.slots i _ hd
  refine ⟨x, h1, h σ R H r _ fun w R1 H1 y r1 s1 hw q1 => ?_⟩
  obtain ⟨R2, y', r2, s2, hw2, ho, q2⟩ := hw.fz r1 q1
  exact q2 σ R2 H1 r2 x w (At.same (s1.trans s2) h2) hw2 _ fun z R3 H3 x3 r3 s3 hz q3 => q3 σ R3 H3 r3 z hz _ fun e4 σ4 R4 H4 r4 s4 q4 => kn e4 σ4 R4 H4 r4 (((s1.trans s2).trans s3).trans s4) q4

/-! ### tests -/
variable {Qb : Bool → Prop}
theorem vt_B {te : TE} (h : VE K G B te env fun x => ∃ b, x = .p (.bl b) ∧ Qb b) : VT K G B (tB te) env Qb := fun σ R H r Qh k => h σ R H r _ fun v R' H' x r' s' hv ⟨b, e, q⟩ => by
  subst e
  cases hv
  exact ⟨b, rfl, k b R' H' r' s' q⟩
theorem vt_test {te : TE} (h : VE K G B te env fun x => ∃ b, x = .p (.bl b) ∧ Qb b) : VT K G B (tTest te) env Qb := fun σ R H r Qh k => h σ R H r _ fun v R' H' x r' s' hv ⟨b, e, q⟩ => by
  subst e
  cases hv
  exact ⟨b, rfl, k b R' H' r' s' q⟩
theorem vt_and {t u : TT} (h : VT K G B t env fun b => (b = true → VT K G B u env Qb) ∧ (b = false → Qb false)) : VT K G B (tAnd t u) env Qb := fun σ R H r Qh k => h σ R H r _ fun b R' H' r' s' q => by
  cases b with
  | true =>
    show u σ H' Qh
    exact q.1 rfl σ R' H' r' Qh fun c R2 H2 r2 s2 q2 => k c R2 H2 r2 (s'.trans s2) q2
  | false =>
    show Qh false H'
    exact k false R' H' r' s' (q.2 rfl)
theorem vt_or {t u : TT} (h : VT K G B t env fun b => (b = true → Qb true) ∧ (b = false → VT K G B u env Qb)) : VT K G B (tOr t u) env Qb := fun σ R H r Qh k => h σ R H r _ fun b R' H' r' s' q => by
  cases b with
  | true =>
    show Qh true H'
    exact k true R' H' r' s' (q.1 rfl)
  | false =>
    show u σ H' Qh
    exact q.2 rfl σ R' H' r' Qh fun c R2 H2 r2 s2 q2 => k c R2 H2 r2 (s'.trans s2) q2
theorem vt_not {t : TT} (h : VT K G B t env fun b => Qb (!b)) : VT K G B (tNot t) env Qb := fun σ R H r Qh k => h σ R H r _ fun b R' H' r' s' q => k (!b) R' H' r' s' q
theorem ve_andV {ta tb : TE} (h : VE K G B ta env fun x => ∃ b, x = .p (.bl b) ∧ (b = true → VE K G B tb env Q) ∧ (b = false → Q (.p (.bl false)))) : VE K G B (tAndV ta tb) env Q := fun σ R H r Qh k => h σ R H r _ fun v R' H' x r' s' hv ⟨b, e, q1, q2⟩ => by
  subst e
  cases hv
  refine ⟨b, rfl, ?_⟩
  cases b with
  | true =>
    show tb σ H' Qh
    exact q1 rfl σ R' H' r' Qh fun z R2 H2 x2 r2 s2 hz q => k z R2 H2 x2 r2 (s'.trans s2) hz q
  | false =>
    show Qh (.bl false) H'
    exact k _ R' H' (.p (.bl false)) r' s' (At.bl false) (q2 rfl)
theorem ve_orV {ta tb : TE} (h : VE K G B ta env fun x => ∃ b, x = .p (.bl b) ∧ (b = true → Q (.p (.bl true))) ∧ (b = false → VE K G B tb env Q)) : VE K G B (tOrV ta tb) env Q := fun σ R H r Qh k => h σ R H r _ fun v R' H' x r' s' hv ⟨b, e, q1, q2⟩ => by
  subst e
  cases hv
  refine ⟨b, rfl, ?_⟩
  cases b with
  | true =>
    show Qh (.bl true) H'
    exact k _ R' H' (.p (.bl true)) r' s' (At.bl true) (q1 rfl)
  | false =>
    show tb σ H' Qh
    exact q2 rfl σ R' H' r' Qh fun z R2 H2 x2 r2 s2 hz q => k z R2 H2 x2 r2 (s'.trans s2) hz q
theorem ve_notV {ta : TE} (h : VE K G B ta env fun x => ∃ b, x = .p (.bl b) ∧ Q (.p (.bl (!b)))) : VE K G B (tNotV ta) env Q := fun σ R H r Qh k => h σ R H r _ fun v R' H' x r' s' hv ⟨b, e, q⟩ => by
  subst e
  cases hv
  exact ⟨b, rfl, k _ R' H' (.p (.bl (!b))) r' s' (At.bl _) q⟩
theorem ve_if {t : TT} {ta tb : TE} (h : VT K G B t env fun b => (b = true → VE K G B ta env Q) ∧ (b = false → VE K G B tb env Q)) : VE K G B (tIf t ta tb) env Q := fun σ R H r Qh k => h σ R H r _ fun b R' H' r' s' q => by
  cases b with
  | true =>
    show ta σ H' Qh
    exact q.1 rfl σ R' H' r' Qh fun z R2 H2 x2 r2 s2 hz q => k z R2 H2 x2 r2 (s'.trans s2) hz q
  | false =>
    show tb σ H' Qh
    exact q.2 rfl σ R' H' r' Qh fun z R2 H2 x2 r2 s2 hz q => k z R2 H2 x2 r2 (s'.trans s2) hz q

/-! ### own objects change -/
/-- an object of a slot changes, and with it the slot -/
theorem Rep.mutS (r : Rep K G B env σ R H) {i : Nat} {sl sl' : Slot} {a : Addr} {y : HO} (hd : env[i]? = some sl) (ha : Slot.owns σ[i]? a sl) (hs : SlotAt K B R (upd H a y) σ i sl') (ho : ∀ b, Slot.owns σ[i]? b sl' → Slot.owns σ[i]? b sl) : Rep K G B (env.set i sl') σ R (upd H a y) := by
  obtain ⟨h0, hn, y0, hy, hl⟩ := r.own hd ha
  have hi : i < env.length := (List.getElem?_eq_some_iff.mp hd).1
  have back : ∀ (j : Nat) s b, (env.set i sl')[j]? = some s → Slot.owns σ[j]? b s → ∃ s0, env[j]? = some s0 ∧ Slot.owns σ[j]? b s0 := fun j s b hj o => by
    by_cases e : i = j
    · subst e
      rw [List.getElem?_set_self hi] at hj
      cases hj
      exact ⟨sl, hd, ho b o⟩
    · rw [List.getElem?_set_ne e] at hj
      exact ⟨s, hj, o⟩
  exact {
    sub0 := r.sub0
    tab := r.tab
    step := {
      same := r.step.same
      sub := fun b x e => subAt_go (r.step.sub b x e) (upd_ne (ne_of_none e hn)) (hard_own hy hl)
      kept := fun b x e n => by
        rw [upd_ne (ne_of_none e h0)]
        exact r.step.kept b x e n
      out := r.step.out }
    len := by rw [List.length_set]; exact r.len
    slots := fun j s q => by
      by_cases e : i = j
      · subst e
        rw [List.getElem?_set_self hi] at q
        cases q
        exact hs
      · rw [List.getElem?_set_ne e] at q
        have := r.slots j s q
        cases s with
        | u => trivial
        | p d => exact this
        | mu d =>
          obtain ⟨b, z, g1, g2, g3, g4, g5⟩ := this
          have hb : b ≠ a := fun w => by
            subst w
            exact r.dist i j _ _ b e hd q ha g1
          exact ⟨b, z, g1, g2, g3, by rw [upd_ne hb]; exact g4, g5⟩
        | hp gs =>
          refine fun g hg => ?_
          obtain ⟨g2, g3, z, g4, g5⟩ := this g hg
          have hb : g.1 ≠ a := fun w => r.dist i j _ _ a e hd q ha (show a ∈ gs.map (·.1) from List.mem_map.mpr ⟨g, hg, w⟩)
          exact ⟨g2, g3, z, by rw [upd_ne hb]; exact g4, g5⟩
    dist := fun j k sj sk b hjk hj hk o1 o2 => by
      obtain ⟨t1, q1, w1⟩ := back j sj b hj o1
      obtain ⟨t2, q2, w2⟩ := back k sk b hk o2
      exact r.dist j k t1 t2 b hjk q1 q2 w1 w2
    pr := fun q hq => by
      obtain ⟨g1, g2, g3, g0, g4⟩ := r.pr q hq
      have hb : q.1 ≠ a := fun w => g4 i _ hd (by rw [w]; exact ha)
      refine ⟨g1, g2, by rw [upd_ne hb]; exact g3, g0, fun j e hj o => ?_⟩
      obtain ⟨t1, q1, w1⟩ := back j e _ hj o
      exact g4 j t1 q1 w1 }
/-- the object of an own slot changes -/
theorem Rep.mut (r : Rep K G B env σ R H) {i : Nat} {d d' : D} {a : Addr} {y : HO} (hd : env[i]? = some (.mu d)) (ha : σ[i]? = some (some (.ref a))) (hm : MAt K R y d') : Rep K G B (env.set i (.mu d')) σ R (upd H a y) := by
  obtain ⟨h0, hn, _⟩ := r.own hd (show Slot.owns σ[i]? a (.mu d) from ha)
  exact r.mutS (sl' := .mu d') hd ha ⟨a, y, ha, h0, hn, upd_same, hm⟩ fun b o => o
/-- an own object of nobody's changes -/
theorem Rep.mutA (r : Rep K G B env σ R H) {a : Addr} {y y0 : HO} (hy : H a = some y0) (hl : hard y0 = false) (h0 : B.H a = none) (hn : R a = none) (hs : NoOwn env σ a) (hp : ∀ q ∈ B.pr, q.1 ≠ a) : Rep K G B env σ R (upd H a y) where
  sub0 := r.sub0
  tab := r.tab
  step := {
    same := r.step.same
    sub := fun b x e => subAt_go (r.step.sub b x e) (upd_ne (ne_of_none e hn)) (hard_upd fun u e => by rw [hy] at e; cases e; exact hl)
    kept := fun b x e n => by
      rw [upd_ne (ne_of_none e h0)]
      exact r.step.kept b x e n
    out := r.step.out }
  len := r.len
  dist := r.dist
  pr := fun q hq => by
    obtain ⟨g1, g2, g3, g0, g4⟩ := r.pr q hq
    exact ⟨g1, g2, by rw [upd_ne (hp q hq)]; exact g3, g0, g4⟩
  slots := fun j s q => by
    have := r.slots j s q
    cases s with
    | u => trivial
    | p d => exact this
    | mu d =>
      obtain ⟨b, z, g1, g2, g3, g4, g5⟩ := this
      have hb : b ≠ a := fun w => by
        subst w
        exact hs j _ q g1
      exact ⟨b, z, g1, g2, g3, by rw [upd_ne hb]; exact g4, g5⟩
    | hp gs =>
      refine fun g hg => ?_
      obtain ⟨g2, g3, z, g4, g5⟩ := this g hg
      have hb : g.1 ≠ a := fun w => hs j _ q (show a ∈ gs.map (·.1) from List.mem_map.mpr ⟨g, hg, w⟩)
      exact ⟨g2, g3, z, by rw [upd_ne hb]; exact g4, g5⟩
/-- a slot is forgotten -/
theorem Rep.forget (r : Rep K G B env σ R H) (i : Nat) : Rep K G B (env.set i .u) σ R H := by
  have back : ∀ (j : Nat) s, (env.set i .u)[j]? = some s → s = .u ∨ env[j]? = some s := fun j s hj => by
    by_cases e : i = j
    · subst e
      have hi := (List.getElem?_eq_some_iff.mp hj).1
      rw [List.length_set] at hi
      rw [List.getElem?_set_self hi] at hj
      exact .inl (Option.some.inj hj).symm
    · rw [List.getElem?_set_ne e] at hj
      exact .inr hj
  exact {
    sub0 := r.sub0
    tab := r.tab
    step := r.step
    len := by rw [List.length_set]; exact r.len
    slots := fun j s hj => by
      rcases back j s hj with rfl | h
      · trivial
      · exact r.slots j s h
    dist := fun j k sj sk a hjk hj hk o1 o2 => by
      rcases back j sj hj with rfl | h
      · exact o1
      · rcases back k sk hk with rfl | h2
        · exact o2
        · exact r.dist j k sj sk a hjk h h2 o1 o2
    pr := fun q hq => by
      obtain ⟨g1, g2, g3, g0, g4⟩ := r.pr q hq
      refine ⟨g1, g2, g3, g0, fun j e hj o => ?_⟩
      rcases back j e hj with rfl | h
      · exact o
      · exact g4 j e h o }
/-- .. then nobody owns its object -/
theorem Rep.noown (r : Rep K G B env σ R H) {i : Nat} {sl : Slot} {a : Addr} (h : env[i]? = some sl) (ow : Slot.owns σ[i]? a sl) : NoOwn (env.set i .u) σ a := fun j e hj o => by
  have hi := (List.getElem?_eq_some_iff.mp h).1
  by_cases q : i = j
  · subst q
    rw [List.getElem?_set_self hi] at hj
    cases hj
    exact o.elim
  · rw [List.getElem?_set_ne q] at hj
    exact r.dist i j _ _ a q h hj ow o
theorem Rep.nopr' (r : Rep K G B env σ R H) {i : Nat} {sl : Slot} {a : Addr} (h : env[i]? = some sl) (ow : Slot.owns σ[i]? a sl) : ∀ q ∈ B.pr, q.1 ≠ a := fun q hq w => (r.pr q hq).2.2.2.2 i _ h (by rw [w]; exact ow)
/-- what is known is nobody's -/
theorem Rep.known (r : Rep K G B env σ R H) {a : Addr} {y : HO} (h : R a = some y) : NoOwn env σ a ∧ ∀ q ∈ B.pr, q.1 ≠ a := ⟨fun j sl hj o => (by
    have := (r.own hj o).2.1
    rw [h] at this
    cases this), fun q hq z => by
    have := (r.pr q hq).2.1
    rw [z, h] at this
    cases this⟩
/-- knowledge of an object of this def's is given up -/
theorem Rep.drop (r : Rep K G B env σ R H) {a : Addr} (hB : B.H a = none) (hs : ∀ i sl, env[i]? = some sl → SlotAt K B R H σ i sl → SlotAt K B (without R a) H σ i sl) : Rep K G B env σ (without R a) H where
  sub0 := r.sub0
  tab := r.tab
  step := {
    same := fun b x e => by
      rw [without_ne (fun z => by subst z; rw [r.sub0.none hB] at e; cases e)]
      exact r.step.same b x e
    sub := fun b x e => by
      by_cases hb : b = a
      · subst hb
        rw [without_same] at e
        cases e
      · rw [without_ne hb] at e
        exact r.step.sub b x e
    kept := r.step.kept
    out := fun b y e hd n => by
      rw [without_ne (fun z => by subst z; rw [hB] at e; cases e)]
      exact r.step.out b y e hd n }
  len := r.len
  dist := r.dist
  pr := fun q hq => by
    obtain ⟨g1, g2, g3, g0, g4⟩ := r.pr q hq
    refine ⟨g1, ?_, g3, g0, g4⟩
    by_cases hb : q.1 = a
    · rw [hb]
      exact without_same
    · rw [without_ne hb]
      exact g2
  slots := fun i sl h => hs i sl h (r.slots i sl h)
/-- protecting, and back -/
theorem Rep.guard (r : Rep K G B env σ R H) {a : Addr} {y : HO} (h0 : B.H a = none) (hn : R a = none) (hy : H a = some y) (hl : isLD y = true) (hs : NoOwn env σ a) : Rep K G { B with pr := (a, y) :: B.pr } env σ R H where
  sub0 := r.sub0
  tab := r.tab
  step := r.step
  len := r.len
  dist := r.dist
  slots := r.slots
  pr := fun q hq => by
    rcases List.mem_cons.mp hq with rfl | hq
    · exact ⟨h0, hn, hy, hl, hs⟩
    · exact r.pr q hq
theorem Rep.unguard {q : Addr × HO} (r : Rep K G { B with pr := q :: B.pr } env σ R H) : Rep K G B env σ R H where
  sub0 := r.sub0
  tab := r.tab
  step := r.step
  len := r.len
  dist := r.dist
  slots := r.slots
  pr := fun p hp => r.pr p (List.mem_cons_of_mem _ hp)
theorem Rep.guarded {a : Addr} {y : HO} (r : Rep K G { B with pr := (a, y) :: B.pr } env σ R H) : B.H a = none ∧ R a = none ∧ H a = some y ∧ isLD y = true ∧ NoOwn env σ a := r.pr _ List.mem_cons_self

/-! ### what is walked -/
/-- the walk J tells the items one by one, as plain things -/
structure Wk (K : PySem.W.Frag) (G : Gs) (B : Bs) (R : Hp) (J : It) (items : List D) : Prop where
  go : ∀ (B : Bs) env σ R' H', Rep K G B env σ R' H' → Same R R' → ∀ i d, items[i]? = some d → J.go i H' ∧ ∀ v H2, J.yld i H' v H2 → ∃ R2, Rep K G B env σ R2 H2 ∧ Same R' R2 ∧ At K R2 v d
  stop : ∀ (B : Bs) env σ R' H', Rep K G B env σ R' H' → Same R R' → J.stop items.length H'
def VI (K : PySem.W.Frag) (G : Gs) (B : Bs) (wi : TI) (env : Vn) (Q : List D → Prop) : Prop := ∀ σ R H, Rep K G B env σ R H → ∀ Qh : It → Hp → Prop,
  (∀ J R' H' items, Rep K G B env σ R' H' → Same R R' → Wk K G B R' J items → Q items → Qh J H') → wi σ H Qh
theorem vs_for {wi : TI} {g : TG} {tb : TS} (h : VI K G B wi env fun items => ∃ Iv : Nat → Vn → Prop, Iv 0 env ∧
    (∀ i d e, items[i]? = some d → Iv i e → VG K G B g (.p d) e fun e' => VS K G B tb e' (Iv (i + 1)) rt nx (Iv (i + 1))) ∧ (∀ e, Iv items.length e → nx e)) : VS K G B (tFor wi g tb) env nx rt bk ct := fun σ R H r Z kn kr kb kc =>
  h σ R H r _ fun J R1 H1 items r1 s1 wk ⟨Iv, h0, hs, he⟩ => by
    refine ⟨fun i m σ' H' => i + m = items.length ∧ ∃ e R', Rep K G B e σ' R' H' ∧ Same R1 R' ∧ Iv i e, ⟨items.length, Nat.zero_add _, env, R1, r1, Same.refl _, h0⟩, ?_⟩
    rintro i m σ' H' ⟨hi, e, R', r', s', q⟩
    by_cases hm : m = 0
    · subst hm
      have ei : i = items.length := hi
      subst ei
      exact .inl ⟨wk.stop B e σ' R' H' r' s', kn e σ' R' H' r' (s1.trans s') (he e q)⟩
    · have hlt : i < items.length := by omega
      obtain ⟨g1, g2⟩ := wk.go B e σ' R' H' r' s' i items[i] (List.getElem?_eq_getElem hlt)
      refine .inr ⟨g1, fun σ2 H2 => ∃ e2 R2, Rep K G B e2 σ2 R2 H2 ∧ Same R1 R2 ∧ Iv (i + 1) e2, fun σ2 H2 ⟨e2, R2, a, b, c⟩ => ⟨m - 1, by omega, by omega, e2, R2, a, b, c⟩, fun v H2 hy => ?_⟩
      obtain ⟨R2, r2, s2, hv⟩ := g2 v H2 hy
      refine hs i items[i] e (List.getElem?_eq_getElem hlt) q σ' R2 H2 r2 v hv _ fun e3 σ3 R3 H3 r3 s3 q3 => ?_
      have st : Same R R3 := ((s1.trans s').trans s2).trans s3
      have st1 : Same R1 R3 := (s'.trans s2).trans s3
      exact q3 σ3 R3 H3 r3 _ (fun e4 σ4 R4 H4 r4 s4 q4 => ⟨e4, R4, r4, st1.trans s4, q4⟩) (fun v e4 σ4 R4 H4 x r4 s4 hv4 q4 => kr v e4 σ4 R4 H4 x r4 (st.trans s4) hv4 q4)
        (fun e4 σ4 R4 H4 r4 s4 q4 => kn e4 σ4 R4 H4 r4 (st.trans s4) q4) (fun e4 σ4 R4 H4 r4 s4 q4 => ⟨e4, R4, r4, st1.trans s4, q4⟩)
theorem vs_while {c : TT} {tb : TS} (Iv : Nat → Vn → Prop) (h0 : ∃ m, Iv m env) (hs : ∀ m e, Iv m e → VT K G B c e fun b => (b = true → VS K G B tb e (fun e' => ∃ m', m' < m ∧ Iv m' e') rt nx (fun e' => ∃ m', m' < m ∧ Iv m' e')) ∧ (b = false → nx e)) :
    VS K G B (tWhile c tb) env nx rt bk ct := fun σ R H r Z kn kr kb kc => by
  obtain ⟨m0, h0⟩ := h0
  refine ⟨fun m σ' H' => ∃ e R', Rep K G B e σ' R' H' ∧ Same R R' ∧ Iv m e, ⟨m0, env, R, r, Same.refl R, h0⟩, ?_⟩
  rintro m σ' H' ⟨e, R', r', s', q⟩
  refine hs m e q σ' R' H' r' _ fun b R2 H2 r2 s2 q2 => ?_
  cases b with
  | true =>
    refine iteT ⟨fun σ3 H3 => ∃ e3 R3, Rep K G B e3 σ3 R3 H3 ∧ Same R R3 ∧ ∃ m', m' < m ∧ Iv m' e3, fun σ3 H3 ⟨e3, R3, a, b, m', hm, c⟩ => ⟨m', hm, e3, R3, a, b, c⟩, ?_⟩
    have st : Same R R2 := s'.trans s2
    exact q2.1 rfl σ' R2 H2 r2 _ (fun e4 σ4 R4 H4 r4 s4 q4 => ⟨e4, R4, r4, st.trans s4, q4⟩) (fun v e4 σ4 R4 H4 x r4 s4 hv4 q4 => kr v e4 σ4 R4 H4 x r4 (st.trans s4) hv4 q4)
        (fun e4 σ4 R4 H4 r4 s4 q4 => kn e4 σ4 R4 H4 r4 (st.trans s4) q4) (fun e4 σ4 R4 H4 r4 s4 q4 => ⟨e4, R4, r4, st.trans s4, q4⟩)
  | false => exact iteF (kn e σ' R2 H2 r2 (s'.trans s2) (q2.2 rfl))
/-- lists, tuples, ranges -/
theorem vi_list {tl : TE} {Ql : List D → Prop} (h : VE K G B tl env fun x => x.fz fun x => (∃ ds, (x = .p (.lst ds) ∨ x = .p (.ro ds)) ∧ Ql ds)) : VI K G B (iList K tl) env Ql := fun σ R H r Qh k =>
  h σ R H r _ fun v R1 H1 x r1 s1 hv q => by
    obtain ⟨R2, x', r2, s2, hv2, ho, ds, e, q2⟩ := hv.fz r1 q
    obtain ⟨a, xs, rfl, hl, ha⟩ : ∃ a xs, v = .ref a ∧ SqL K R2 a xs ∧ AtL K R2 xs ds := by
      rcases e with rfl | rfl
      · cases hv2 with
        | @lst a xs _ h1 h2 => exact ⟨a, xs, rfl, .inl (.inl h1), h2⟩
      · cases hv2 with
        | @ro a xs _ h1 h2 => exact ⟨a, xs, rfl, h1, h2⟩
    refine ⟨a, rfl, ⟨xs, r2.sub.l hl⟩, k _ R2 H1 ds r2 (s1.trans s2) ⟨?_, ?_⟩ q2⟩
    · intro B' e' σ' R' H' r' s' i d hi
      obtain ⟨v, hv, hd⟩ := ha.get hi
      have hL := r'.sub.l (same_l s' hl)
      refine ⟨⟨xs, v, hL, hv⟩, ?_⟩
      rintro w H3 ⟨rfl, hw⟩
      have := hw xs hL
      rw [hv] at this
      cases this
      exact ⟨R', r', Same.refl _, hd.same s'⟩
    · intro B' e' σ' R' H' r' s'
      exact ⟨xs, r'.sub.l (same_l s' hl), by rw [ha.len]; exact Nat.le_refl _⟩
theorem vi_tup {tl : TE} {Ql : List D → Prop} (h : VE K G B tl env fun x => ∃ ds, x = .p (.tup ds) ∧ Ql ds) : VI K G B (iTup K tl) env Ql := fun σ R H r Qh k =>
  h σ R H r _ fun v R2 H1 x r2 s2 hv2 ⟨ds, e, q2⟩ => by
    subst e
    obtain ⟨a, xs, rfl, hl, ha⟩ : ∃ a xs, v = .ref a ∧ SqT K R2 a xs ∧ AtL K R2 xs ds := by
      cases hv2 with
      | @tup a xs _ h1 h2 => exact ⟨a, xs, rfl, h1, h2⟩
    refine ⟨a, rfl, ⟨xs, r2.sub.t hl⟩, k _ R2 H1 ds r2 s2 ⟨?_, ?_⟩ q2⟩
    · intro B' e' σ' R' H' r' s' i d hi
      obtain ⟨v, hv, hd⟩ := ha.get hi
      have hL := r'.sub.t (same_t s' hl)
      refine ⟨⟨xs, v, hL, hv⟩, ?_⟩
      rintro w H3 ⟨rfl, hw⟩
      have := hw xs hL
      rw [hv] at this
      cases this
      exact ⟨R', r', Same.refl _, hd.same s'⟩
    · intro B' e' σ' R' H' r' s'
      exact ⟨xs, r'.sub.t (same_t s' hl), by rw [ha.len]; exact Nat.le_refl _⟩
def rangeD (lo : Int) (n : Nat) : List D := (List.range n).map fun i => D.int (lo + (i : Nat))
theorem rangeD_len (lo : Int) (n : Nat) : (rangeD lo n).length = n := by
  unfold rangeD
  rw [List.length_map, List.length_range]
theorem rangeD_get {lo : Int} {n i : Nat} {d : D} (h : (rangeD lo n)[i]? = some d) : i < n ∧ d = .int (lo + (i : Nat)) := by
  unfold rangeD at h
  rw [List.getElem?_map] at h
  by_cases hi : i < n
  · rw [List.getElem?_range hi] at h
    cases h
    exact ⟨hi, rfl⟩
  · rw [List.getElem?_eq_none_iff.mpr (by rw [List.length_range]; omega)] at h
    cases h
theorem wk_range {lo : Int} {n : Nat} : Wk K G B R (Itr lo n) (rangeD lo n) where
  go := fun B e σ R' H' r s i d hi => by
    obtain ⟨h1, rfl⟩ := rangeD_get hi
    refine ⟨h1, ?_⟩
    rintro v H2 ⟨rfl, rfl⟩
    exact ⟨R', r, Same.refl _, .int _⟩
  stop := fun B e σ R' H' r s => by
    rw [rangeD_len]
    exact Nat.le_refl _
theorem vi_range1 {ta : TA} {Ql : List D → Prop} (h : VA K G B ta env fun xs => ∃ j : Int, xs = [.p (.int j)] ∧ (-(2 ^ 62) ≤ j ∧ j < 2 ^ 62) ∧ Ql (rangeD 0 j.toNat)) : VI K G B (iRng1 ta) env Ql := fun σ R H r Qh k =>
  h σ R H r _ fun vs R1 H1 xs r1 s1 hv _ ⟨j, e, hj, q⟩ => by
    subst e
    match vs, hv with
    | [v], hv =>
      cases hv.1
      exact ⟨j, rfl, hj.1, hj.2, k _ R1 H1 _ r1 s1 wk_range q⟩
theorem vi_range2 {ta : TA} {Ql : List D → Prop} (h : VA K G B ta env fun xs => ∃ i j : Int, xs = [.p (.int i), .p (.int j)] ∧ (-(2 ^ 62) ≤ i ∧ i < 2 ^ 62 ∧ -(2 ^ 62) ≤ j ∧ j < 2 ^ 62) ∧ Ql (rangeD i (j - i).toNat)) : VI K G B (iRng2 ta) env Ql := fun σ R H r Qh k =>
  h σ R H r _ fun vs R1 H1 xs r1 s1 hv _ ⟨i, j, e, hj, q⟩ => by
    subst e
    match vs, hv with
    | [v, w], hv =>
      cases hv.1
      cases hv.2.1
      exact ⟨i, j, rfl, hj, k _ R1 H1 _ r1 s1 wk_range q⟩

/-! ### a def -/
theorem rep_start {N : List Str} {vs : List V} {ds : List D} (s : Sub K G R H) (tb : TabIn G R) (h : AtL K R vs ds) (hn : ds.length ≤ N.length) : Rep K G ⟨R, H, []⟩ (ds.map Slot.p ++ List.replicate (N.length - ds.length) .u) (L2.start N vs) R H where
  sub0 := s
  tab := tb
  step := Step.refl s
  len := by
    unfold L2.start
    rw [List.length_append, List.length_append, List.length_map, List.length_map, List.length_replicate, List.length_replicate, h.len]
  pr := fun _ h => by cases h
  slots := fun i sl q => by
    by_cases hi : i < ds.length
    · rw [List.getElem?_append_left (by rw [List.length_map]; exact hi), List.getElem?_map, List.getElem?_eq_getElem hi] at q
      cases q
      obtain ⟨v, h1, h2⟩ := h.get (List.getElem?_eq_getElem hi)
      refine ⟨v, ?_, h2⟩
      unfold L2.start
      rw [List.getElem?_append_left (by rw [List.length_map, h.len]; exact hi), List.getElem?_map, h1]
      rfl
    · rw [List.getElem?_append_right (by rw [List.length_map]; omega), List.getElem?_replicate] at q
      split at q
      · cases q
        trivial
      · cases q
  dist := fun i j si sj a _ q _ o => by
    by_cases hi : i < ds.length
    · rw [List.getElem?_append_left (by rw [List.length_map]; exact hi), List.getElem?_map, List.getElem?_eq_getElem hi] at q
      cases q
      exact o.elim
    · rw [List.getElem?_append_right (by rw [List.length_map]; omega), List.getElem?_replicate] at q
      split at q
      · cases q
        exact o.elim
      · cases q
/-- what a def hands back: a new object of its own, or a plain thing -/
def Rt (fr : Bool) (post : D → Prop) (x : XV) : Prop := match x with
  | .p d => fr = false ∧ post d
  | .o d => post d
  | .m _ d => post d
theorem run_def {α : Type} {fr : Bool} {args : α → List D} {pre : α → Prop} {post : α → D → Prop} {rs : α → Addr → Prop} {vs : List V} {Q : VK} {E : XK} {t : TS} {N : List Str}
    (hn : ∀ x, (args x).length ≤ N.length) {env0 : α → Vn} (he : ∀ x, (args x).map Slot.p ++ List.replicate (N.length - (args x).length) .u = env0 x)
    (h : ∀ B x, pre x → Lets K G B E (rs x) → VS K G B t (env0 x) (fun _ => fr = false ∧ post x .non) (Rt fr (post x)) (fun _ => False) (fun _ => False))
    (hs : SpA K G fr args pre post rs vs H Q E) : t { nx := fun _ H' => Q .non H', rt := Q } (L2.start N vs) H := by
  obtain ⟨R, x, ⟨s, tb⟩, ha, hp, q, qe⟩ := hs
  have h := h ⟨R, H, []⟩ x hp (fun C R' H' st hc => qe C R' H' st hc)
  rw [← he x] at h
  refine h _ R H (rep_start s tb ha (hn x)) _ ?_ ?_ ?_ ?_
  · intro e σ' R' H' r _ ⟨hf, hq⟩
    exact q .non R' H' .non r.step .non (fun z => by rw [hf] at z; cases z) hq
  · intro v e σ' R' H' y r _ hv hq
    cases y with
    | p d => exact q v R' H' d r.step hv (fun z => by rw [hq.1] at z; cases z) hq.2
    | o d =>
      obtain ⟨a, y, rfl, h0, hn, hy, hm, h5, h6⟩ := hv
      have r2 := r.take hy (mat_mk hm) h0 hn h5 h6
      exact q _ _ H' d r2.step (At.of_mat hm hn) (fun _ => ⟨a, rfl, h0, fun o u z => by
        rw [upd_same] at z
        cases z
        cases d <;> exact hm.elim⟩) hq
    | m i d =>
      obtain ⟨h1, h2⟩ := hv
      obtain ⟨a, y, g1, g2, g3, g4, g5⟩ := r.slots i _ h1
      rw [g1] at h2
      cases h2
      -- the slot is given up
      refine q _ (upd R' a y) H' d ?_ (At.of_mat g5 g3) (fun _ => ⟨a, rfl, g2, fun o u z => by
        rw [upd_same] at z
        cases z
        cases d <;> exact g5.elim⟩) hq
      exact {
        same := r.step.same.trans (same_take g3)
        sub := sub_put r.sub (subAt_of g4 (mat_mk g5))
        kept := r.step.kept
        out := fun b z e hd n => by
          rw [upd_ne (ne_of_none e g2)]
          exact r.step.out b z e hd n }
  · intro _ _ _ _ _ _ q
    exact q.elim
  · intro _ _ _ _ _ _ q
    exact q.elim
theorem spA_len {α : Type} {fr : Bool} {args : α → List D} {pre : α → Prop} {post : α → D → Prop} {rs : α → Addr → Prop} {vs : List V} {Q : VK} {E : XK} {n : Nat} (hn : ∀ x, (args x).length = n) (h : SpA K G fr args pre post rs vs H Q E) : vs.length = n := by
  obtain ⟨R, x, _, ha, _⟩ := h
  rw [ha.len, hn]

/-! ### ghost steps: an own object becomes plain; a list of good ints is drawn from -/
theorem set_same {i : Nat} {x : Option V} (h : σ[i]? = some x) : σ.set i x = σ := by
  apply List.ext_getElem?
  intro j
  by_cases e : i = j
  · subst e
    have hi := (List.getElem?_eq_some_iff.mp h).1
    rw [List.getElem?_set_self hi, h]
  · rw [List.getElem?_set_ne e]
/-- an own slot's object is marked or made plain: o -/
theorem Rep.putS (r : Rep K G B env σ R H) {i : Nat} {d d' : D} {a : Addr} {o : HO} (hd : env[i]? = some (.mu d)) (h1 : σ[i]? = some (some (.ref a))) (ho : SubAt K G H a o) (hat : At K (upd R a o) (.ref a) d') : Rep K G B (env.set i (.p d')) σ (upd R a o) H ∧ Same R (upd R a o) := by
  have ow : Slot.owns σ[i]? a (.mu d) := h1
  obtain ⟨h2, h3, _⟩ := r.own hd ow
  have hi : i < env.length := (List.getElem?_eq_some_iff.mp hd).1
  have e1 := set_same h1
  refine ⟨?_, same_take h3⟩
  have r1 : Rep K G B (env.set i .u) σ R H := by
    have := r.set (i := i) (sl := .u) (v := .ref a) hi trivial noOwn_u
    rw [e1] at this
    exact this
  have hs : NoOwn (env.set i .u) σ a := fun j e hj o => by
    by_cases q : i = j
    · subst q
      rw [List.getElem?_set_self hi] at hj
      cases hj
      exact o.elim
    · rw [List.getElem?_set_ne q] at hj
      exact r.dist i j _ _ a q hd hj ow o
  have r2 := r1.put ho h2 h3 hs fun q hq w => (r.pr q hq).2.2.2.2 i _ hd (by rw [w]; exact h1)
  have := r2.set (i := i) (sl := .p d') (v := .ref a) (by rw [List.length_set]; exact hi) ⟨.ref a, List.getElem?_set_self (r.ilt hi), hat⟩ noOwn_p
  rw [e1, List.set_set] at this
  exact this
theorem Rep.freeze (r : Rep K G B env σ R H) {i : Nat} {d : D} (hd : env[i]? = some (.mu d)) : ∃ R', Rep K G B (env.set i (.p d)) σ R' H ∧ Same R R' := by
  obtain ⟨a, y, h1, h2, h3, h4, h5⟩ := r.slots i _ hd
  exact ⟨_, r.putS hd h1 (subAt_of h4 (mat_mk h5)) (At.of_mat h5 h3)⟩
theorem vs_freeze (i : Nat) {t : TS} {d : D} (hd : env[i]? = some (.mu d)) (h : VS K G B t (env.set i (.p d)) nx rt bk ct) : VS K G B t env nx rt bk ct := fun σ R H r Z kn kr kb kc => by
  obtain ⟨R', r', s⟩ := r.freeze hd
  exact h σ R' H r' Z (fun e σ' R2 H2 r2 s2 => kn e σ' R2 H2 r2 (s.trans s2)) (fun v e σ' R2 H2 x r2 s2 => kr v e σ' R2 H2 x r2 (s.trans s2)) (fun e σ' R2 H2 r2 s2 => kb e σ' R2 H2 r2 (s.trans s2)) (fun e σ' R2 H2 r2 s2 => kc e σ' R2 H2 r2 (s.trans s2))
end
end VL

namespace VL
open PySem L2
section
variable {K : PySem.W.Frag} {G : Gs} {B : Bs} {env : Vn} {σ : L2.St} {R R' R1 H H' H1 : Hp} {Q : XV → Prop} {nx : Vn → Prop} {rt : XV → Prop} {bk ct : Vn → Prop} {Qe : Vn → Prop} {Qb : Bool → Prop}

/-! ### small keys to values -/
def XV.plains : List XV → Option (List D)
  | [] => some []
  | .p d :: r => match XV.plains r with
    | some ds => some (d :: ds)
    | none => none
  | _ :: _ => none
theorem plains_at : ∀ {vs : List V} {xs : List XV} {ds : List D}, XV.plains xs = some ds → VAtL K B env σ R H vs xs → AtL K R vs ds
  | [], [], _, e, _ => by
    cases e
    exact .nil
  | [], _ :: _, _, _, h => h.elim
  | _ :: _, [], _, _, h => h.elim
  | v :: vs, .p d :: xs, ds, e, h => by
    unfold XV.plains at e
    cases q : XV.plains xs with
    | none =>
      rw [q] at e
      cases e
    | some es =>
      rw [q] at e
      cases e
      exact .cons h.1 (plains_at q h.2)
  | _ :: _, .o _ :: _, _, e, _ => by cases e
  | _ :: _, .m _ _ :: _, _, e, _ => by cases e
/-- a new plain object -/
theorem Rep.newP (r : Rep K G B env σ R H) {a : Addr} {y : HO} (h : H a = none) (hy : isMk y = false) : Rep K G B env σ (upd R a y) (upd H a y) :=
  (r.new h).take upd_same hy (r.fresh h) (r.sub.none h) (r.noslot h) (r.nopr h)
theorem ve_tup {ta : TA} (h : VA K G B ta env fun xs => ∃ ds, XV.plains xs = some ds ∧ ds.length ≤ 100000 ∧ Q (.p (.tup ds))) : VE K G B (tTup ta) env Q := fun σ R H r Qh k =>
  h σ R H r _ fun vs R1 H1 xs r1 s1 hv _ ⟨ds, e, hl, q⟩ => by
    have ha := plains_at e hv
    refine ⟨by rw [ha.len]; exact Nat.le_trans hl (by decide), fun p hp => ?_⟩
    have hn := r1.sub.none hp
    exact k (.ref p) _ _ (.p (.tup ds)) (r1.newP hp rfl) (s1.trans (same_take hn)) (.tup (.inl (.inl upd_same)) (ha.same (same_take hn))) q
theorem ve_lst {ta : TA} (h : VA K G B ta env fun xs => ∃ ds, XV.plains xs = some ds ∧ ds.length ≤ 100000 ∧ Q (.o (.lst ds))) : VE K G B (tLst ta) env Q := fun σ R H r Qh k =>
  h σ R H r _ fun vs R1 H1 xs r1 s1 hv _ ⟨ds, e, hl, q⟩ => by
    have ha := plains_at e hv
    refine ⟨by rw [ha.len]; exact Nat.le_trans hl (by decide), fun p hp => ?_⟩
    exact k (.ref p) R1 _ (.o (.lst ds)) (r1.new hp) s1 ⟨p, _, rfl, r1.fresh hp, r1.sub.none hp, upd_same, ha, r1.noslot hp, r1.nopr hp⟩ q
/-- a new own list, a new own dict -/
theorem own_lst (r : Rep K G B env σ R H) {p : Addr} {xs : List V} {ds : List D} (hp : H p = none) (ha : AtL K R xs ds) : Rep K G B env σ R (upd H p (.lst xs)) ∧ VAt K B env σ R (upd H p (.lst xs)) (.ref p) (.o (.lst ds)) :=
  ⟨r.new hp, p, _, rfl, r.fresh hp, r.sub.none hp, upd_same, ha, r.noslot hp, r.nopr hp⟩
theorem own_dct (r : Rep K G B env σ R H) {p : Addr} {xs : List (Key × V)} {ds : List (Key × D)} (hp : H p = none) (ha : AtD K R xs ds) : Rep K G B env σ R (upd H p (.dK xs)) ∧ VAt K B env σ R (upd H p (.dK xs)) (.ref p) (.o (.dct ds)) :=
  ⟨r.new hp, p, _, rfl, r.fresh hp, r.sub.none hp, upd_same, ha, r.noslot hp, r.nopr hp⟩
theorem ve_dnew (q : Q (.o (.dct []))) : VE K G B tDNewK env Q := fun σ R H r Qh k p hp => by
  obtain ⟨r2, v2⟩ := own_dct (ds := []) r hp .nil
  exact k _ R _ _ r2 (Same.refl R) v2 q

/-! ### a list is read: plain, locked, or a slot's -/
def XV.seqL : XV → Option (List D)
  | .p (.lst ds) => some ds
  | .p (.ro ds) => some ds
  | .m _ (.lst ds) => some ds
  | _ => none
theorem seqL_at (r : Rep K G B env σ R H) {v : V} {x : XV} {ds : List D} (h : VAt K B env σ R H v x) (e : x.seqL = some ds) : ∃ a xs, v = .ref a ∧ SqL K H a xs ∧ AtL K R xs ds := by
  cases x with
  | p d =>
    cases d with
    | lst es =>
      cases e
      cases h with
      | @lst a xs _ h1 h2 => exact ⟨a, xs, rfl, r.sub.l (.inl (.inl h1)), h2⟩
    | ro es =>
      cases e
      cases h with
      | @ro a xs _ h1 h2 => exact ⟨a, xs, rfl, r.sub.l h1, h2⟩
    | _ => cases e
  | o d => cases e
  | m i d =>
    cases d with
    | lst es =>
      cases e
      obtain ⟨h1, h2⟩ := h
      obtain ⟨a, y, g1, g2, g3, g4, g5⟩ := r.slots i _ h1
      rw [g1] at h2
      cases h2
      cases y with
      | lst xs => exact ⟨a, xs, rfl, .inl (.inl g4), g5⟩
      | _ => exact g5.elim
    | _ => cases e
/-- exactly a list, not a locked one -/
def XV.exL : XV → Option (List D)
  | .p (.lst ds) => some ds
  | .m _ (.lst ds) => some ds
  | _ => none
theorem exL_at (r : Rep K G B env σ R H) {v : V} {x : XV} {ds : List D} (h : VAt K B env σ R H v x) (e : x.exL = some ds) : ∃ a xs, v = .ref a ∧ H a = some (.lst xs) ∧ AtL K R xs ds := by
  cases x with
  | p d =>
    cases d with
    | lst es =>
      cases e
      cases h with
      | @lst a xs _ h1 h2 => exact ⟨a, xs, rfl, r.sub.of h1 (rfl), h2⟩
    | _ => cases e
  | o d => cases e
  | m i d =>
    cases d with
    | lst es =>
      cases e
      obtain ⟨h1, h2⟩ := h
      obtain ⟨a, y, g1, g2, g3, g4, g5⟩ := r.slots i _ h1
      rw [g1] at h2
      cases h2
      cases y with
      | lst xs => exact ⟨a, xs, rfl, g4, g5⟩
      | _ => exact g5.elim
    | _ => cases e
theorem tup_at (r : Rep K G B env σ R H) {v : V} {ds : List D} (h : VAt K B env σ R H v (.p (.tup ds))) : ∃ a xs, v = .ref a ∧ SqT K H a xs ∧ SqT K R a xs ∧ AtL K R xs ds := by
  cases h with
  | @tup a xs _ h1 h2 => exact ⟨a, xs, rfl, r.sub.t h1, h1, h2⟩
theorem int_at {v : V} {i : Int} (h : VAt K B env σ R H v (.p (.int i))) : v = .int i := by cases h; rfl
theorem str_at {v : V} {i : Str} (h : VAt K B env σ R H v (.p (.str i))) : v = .str i := by cases h; rfl
theorem bl_at {v : V} {i : Bool} (h : VAt K B env σ R H v (.p (.bl i))) : v = .bl i := by cases h; rfl

/-! ### operators -/
theorem vo_I0 {g : Int → Int → Int} {i j : Int} (q : Q (.p (.int (g i j)))) : VO K G B (rI0 fun i j => .int (g i j)) env (.p (.int i)) (.p (.int j)) Q := fun σ R H r v w hv hw Qh k =>
  ⟨i, j, int_at hv, int_at hw, k _ R H (.p (.int (g i j))) r (Same.refl R) (.int _) q⟩
theorem vo_B0 {g : Int → Int → Bool} {i j : Int} (q : Q (.p (.bl (g i j)))) : VO K G B (rI0 fun i j => .bl (g i j)) env (.p (.int i)) (.p (.int j)) Q := fun σ R H r v w hv hw Qh k =>
  ⟨i, j, int_at hv, int_at hw, k _ R H (.p (.bl (g i j))) r (Same.refl R) (.bl _) q⟩
theorem vo_I {C : Int → Int → Prop} {g : Int → Int → Int} {i j : Int} (hc : C i j) (q : Q (.p (.int (g i j)))) : VO K G B (rI C fun i j => .int (g i j)) env (.p (.int i)) (.p (.int j)) Q := fun σ R H r v w hv hw Qh k =>
  ⟨i, j, int_at hv, int_at hw, hc, k _ R H (.p (.int (g i j))) r (Same.refl R) (.int _) q⟩
theorem vo_ip {f : Int → Int → Int} {i j : Int} (q : Q (.p (.int (f i j)))) : VO K G B (ipI f) env (.p (.int i)) (.p (.int j)) Q := fun σ R H r v w hv hw Qh k =>
  ⟨i, j, int_at hv, int_at hw, k _ R H (.p (.int (f i j))) r (Same.refl R) (.int _) q⟩
theorem vu_I {g : Int → Int} {i : Int} (q : Q (.p (.int (g i)))) : VU K G B (rU fun i => .int (g i)) env (.p (.int i)) Q := fun σ R H r v hv Qh k =>
  ⟨i, int_at hv, k _ R H (.p (.int (g i))) r (Same.refl R) (.int _) q⟩
/-- scalars -/
def D.sc : D → Option V
  | .non => some .non
  | .bl b => some (.bl b)
  | .int i => some (.int i)
  | .str x => some (.str x)
  | _ => none
theorem sc_at {v w : V} {d : D} (h : VAt K B env σ R H v (.p d)) (e : d.sc = some w) : v = w := by
  cases d <;> first | (cases e; cases h; rfl; done) | cases e
theorem vo_eq {d e : D} {v w : V} (hd : d.sc = some v) (he : e.sc = some w) (hs : scal v w = true) (q : Q (.p (.bl (decide (v = w))))) : VO K G B rEq env (.p d) (.p e) Q := fun σ R H r x y hx hy Qh k => by
  have e1 := sc_at hx hd
  have e2 := sc_at hy he
  subst e1
  subst e2
  exact ⟨hs, k _ R H (.p (.bl _)) r (Same.refl R) (.bl _) q⟩
theorem vo_ne {d e : D} {v w : V} (hd : d.sc = some v) (he : e.sc = some w) (hs : scal v w = true) (q : Q (.p (.bl (!decide (v = w))))) : VO K G B rNe env (.p d) (.p e) Q := fun σ R H r x y hx hy Qh k => by
  have e1 := sc_at hx hd
  have e2 := sc_at hy he
  subst e1
  subst e2
  exact ⟨hs, k _ R H (.p (.bl _)) r (Same.refl R) (.bl _) q⟩
theorem dec_int (i j : Int) : decide (V.int i = V.int j) = decide (i = j) := decide_eq_decide.mpr ⟨fun h => by cases h; rfl, fun h => by rw [h]⟩
theorem dec_str (i j : Str) : decide (V.str i = V.str j) = decide (i = j) := decide_eq_decide.mpr ⟨fun h => by cases h; rfl, fun h => by rw [h]⟩
theorem dec_bl (i j : Bool) : decide (V.bl i = V.bl j) = decide (i = j) := decide_eq_decide.mpr ⟨fun h => by cases h; rfl, fun h => by rw [h]⟩
theorem vo_eq_int {i j : Int} (q : Q (.p (.bl (decide (i = j))))) : VO K G B rEq env (.p (.int i)) (.p (.int j)) Q := vo_eq rfl rfl rfl (by rw [dec_int]; exact q)
theorem vo_ne_int {i j : Int} (q : Q (.p (.bl (!decide (i = j))))) : VO K G B rNe env (.p (.int i)) (.p (.int j)) Q := vo_ne rfl rfl rfl (by rw [dec_int]; exact q)
theorem vo_eq_str {i j : Str} (q : Q (.p (.bl (decide (i = j))))) : VO K G B rEq env (.p (.str i)) (.p (.str j)) Q := vo_eq rfl rfl rfl (by rw [dec_str]; exact q)
theorem vo_ne_str {i j : Str} (q : Q (.p (.bl (!decide (i = j))))) : VO K G B rNe env (.p (.str i)) (.p (.str j)) Q := vo_ne rfl rfl rfl (by rw [dec_str]; exact q)
theorem vo_eq_bl {i j : Bool} (q : Q (.p (.bl (decide (i = j))))) : VO K G B rEq env (.p (.bl i)) (.p (.bl j)) Q := vo_eq rfl rfl rfl (by rw [dec_bl]; exact q)
theorem vo_ne_bl {i j : Bool} (q : Q (.p (.bl (!decide (i = j))))) : VO K G B rNe env (.p (.bl i)) (.p (.bl j)) Q := vo_ne rfl rfl rfl (by rw [dec_bl]; exact q)
def D.isNon : D → Bool
  | .non => true
  | _ => false
theorem non_at {v : V} {d : D} (h : At K R v d) : decide (v = .non) = d.isNon := by
  cases h <;> rfl
/-- is None, is not None -/
theorem vo_isN {d : D} (q : Q (.p (.bl d.isNon))) : VO K G B (fun x y H Q => y = .non ∧ Q (.bl (decide (x = .non))) H) env (.p d) (.p .non) Q := fun σ R H r v w hv hw Qh k => by
  cases hw
  exact ⟨rfl, by rw [non_at hv]; exact k _ R H (.p (.bl _)) r (Same.refl R) (.bl _) q⟩
theorem vo_notN {d : D} (q : Q (.p (.bl (!d.isNon)))) : VO K G B (fun x y H Q => y = .non ∧ Q (.bl (!decide (x = .non))) H) env (.p d) (.p .non) Q := fun σ R H r v w hv hw Qh k => by
  cases hw
  exact ⟨rfl, by rw [non_at hv]; exact k _ R H (.p (.bl _)) r (Same.refl R) (.bl _) q⟩
/-- xs[i] -/
theorem atl_at {xs : List V} {ds : List D} {i : Int} {d : D} (h : AtL K R xs ds) (e : atI ds i = some d) : ∃ v, atI xs i = some v ∧ At K R v d := by
  unfold atI at e ⊢
  rw [h.len]
  cases q : ixN ds.length i with
  | none =>
    rw [q] at e
    cases e
  | some j =>
    rw [q] at e
    exact h.get e
theorem vo_ixL {x : XV} {ds : List D} {i : Int} {d : D} (hx : x.seqL = some ds) (hi : atI ds i = some d) (q : Q (.p d)) : VO K G B (rIxL K) env x (.p (.int i)) Q := fun σ R H r v w hv hw Qh k => by
  obtain ⟨a, xs, rfl, h1, h2⟩ := seqL_at r hv hx
  obtain ⟨v, h3, h4⟩ := atl_at h2 hi
  exact ⟨a, xs, i, v, rfl, int_at hw, h1, h3, k v R H (.p d) r (Same.refl R) h4 q⟩
theorem vo_ixT {ds : List D} {i : Int} {d : D} (hi : atI ds i = some d) (q : Q (.p d)) : VO K G B (rIxT K) env (.p (.tup ds)) (.p (.int i)) Q := fun σ R H r v w hv hw Qh k => by
  obtain ⟨a, xs, rfl, h1, _, h2⟩ := tup_at r hv
  obtain ⟨v, h3, h4⟩ := atl_at h2 hi
  exact ⟨a, xs, i, v, rfl, int_at hw, h1, h3, k v R H (.p d) r (Same.refl R) h4 q⟩
theorem vo_ixS {z : Str} {i : Int} {c : Nat} (hz : z.length ≤ 100000) (hi : atI z.cps.toList i = some c) (q : Q (.p (.str ⟨#[c]⟩))) : VO K G B rIxS env (.p (.str z)) (.p (.int i)) Q := fun σ R H r v w hv hw Qh k =>
  ⟨z, i, c, str_at hv, int_at hw, Nat.le_trans hz (by decide), hi, k _ R H (.p (.str _)) r (Same.refl R) (.str _) q⟩
theorem vo_add_str {i j : Str} (hl : i.length + j.length ≤ 100000) (q : Q (.p (.str (i ++ j)))) : VO K G B (fun x y H Q => ∃ i j, x = .str i ∧ y = .str j ∧ i.length + j.length ≤ sizeLine ∧ Q (.str (i ++ j)) H) env (.p (.str i)) (.p (.str j)) Q := fun σ R H r v w hv hw Qh k =>
  ⟨i, j, str_at hv, str_at hw, Nat.le_trans hl (by decide), k _ R H (.p (.str _)) r (Same.refl R) (.str _) q⟩
/-- xs + ys, [x] * n -/
theorem vo_cat {x y : XV} {ds es : List D} (hx : x.exL = some ds) (hy : y.exL = some es) (hl : ds.length + es.length ≤ 100000) (q : Q (.o (.lst (ds ++ es)))) : VO K G B rCat env x y Q := fun σ R H r v w hv hw Qh k => by
  obtain ⟨a, xs, rfl, h1, h2⟩ := exL_at r hv hx
  obtain ⟨b, ys, rfl, g1, g2⟩ := exL_at r hw hy
  refine ⟨a, b, xs, ys, rfl, rfl, h1, g1, by rw [h2.len, g2.len]; exact Nat.le_trans hl (by decide), fun p hp => ?_⟩
  obtain ⟨r2, v2⟩ := own_lst r hp (h2.app g2)
  exact k _ R _ _ r2 (Same.refl R) v2 q
theorem AtL.rep1 {v : V} {d : D} (h : At K R v d) : ∀ n, AtL K R (List.replicate n v) (List.replicate n d)
  | 0 => .nil
  | n + 1 => .cons h (AtL.rep1 h n)
theorem rep_one {α : Type} (x : α) : ∀ n, (List.replicate n [x]).flatten = List.replicate n x
  | 0 => rfl
  | n + 1 => by
    rw [List.replicate_succ, List.flatten_cons, rep_one x n]
    rfl
theorem vo_rep1 {x : XV} {d : D} {n : Int} (hx : x.exL = some [d]) (hn : n ≤ 100000) (h0 : -(2 ^ 63) ≤ n) (q : Q (.o (.lst (List.replicate n.toNat d)))) : VO K G B rRep env x (.p (.int n)) Q := fun σ R H r v w hv hw Qh k => by
  obtain ⟨a, xs, rfl, h1, h2⟩ := exL_at r hv hx
  cases h2 with
  | @cons v vs _ _ h3 h4 =>
    cases h4
    refine ⟨a, n, [v], rfl, int_at hw, h1, h0, Int.lt_of_le_of_lt hn (by decide), ?_, fun p hp => ?_⟩
    · show 1 * n.toNat ≤ sizeLine
      rw [Nat.one_mul]
      exact Nat.le_trans (show n.toNat ≤ 100000 by omega) (by decide)
    · rw [rep_one]
      obtain ⟨r2, v2⟩ := own_lst r hp (AtL.rep1 h3 n.toNat)
      exact k _ R _ _ r2 (Same.refl R) v2 q
/-- t + u of tuples -/
theorem vo_catA {ds es : List D} (hl : ds.length + es.length ≤ 100000) (q : Q (.p (.tup (ds ++ es)))) : VO K G B (rCatA K) env (.p (.tup ds)) (.p (.tup es)) Q := fun σ R H r v w hv hw Qh k => by
  obtain ⟨a, xs, rfl, h1, h1', h2⟩ := tup_at r hv
  obtain ⟨b, ys, rfl, g1, g1', g2⟩ := tup_at r hw
  refine ⟨a, b, xs, ys, rfl, rfl, h1, g1, by rw [h2.len, g2.len]; exact Nat.le_trans hl (by decide), fun e => ?_, fun _ e => ?_, fun _ _ p hp => ?_⟩
  · subst e
    cases h2
    exact k _ R H (.p (.tup _)) r (Same.refl R) (.tup g1' g2) q
  · subst e
    cases g2
    rw [List.append_nil] at q
    exact k _ R H (.p (.tup _)) r (Same.refl R) (.tup h1' h2) q
  · have hn := r.sub.none hp
    exact k _ _ _ (.p (.tup _)) (r.newP hp rfl) (same_take hn) (.tup (.inl (.inl upd_same)) ((h2.app g2).same (same_take hn))) q

/-! ### calls of built-ins -/
theorem vc1 {r : List V → Hp → VK → Prop} {x : XV} (h : ∀ σ R H, Rep K G B env σ R H → ∀ v, VAt K B env σ R H v x → ∀ Qh : VK,
    (∀ z R' H' x', Rep K G B env σ R' H' → Same R R' → VAt K B env σ R' H' z x' → Q x' → Qh z H') → r [v] H Qh) : VC K G B r env [x] Q := fun σ R H rp vs hv Qh k => by
  match vs, hv with
  | [v], hv => exact h σ R H rp v hv.1 Qh k
theorem vc2 {r : List V → Hp → VK → Prop} {x y : XV} (h : ∀ σ R H, Rep K G B env σ R H → ∀ v w, VAt K B env σ R H v x → VAt K B env σ R H w y → ∀ Qh : VK,
    (∀ z R' H' x', Rep K G B env σ R' H' → Same R R' → VAt K B env σ R' H' z x' → Q x' → Qh z H') → r [v, w] H Qh) : VC K G B r env [x, y] Q := fun σ R H rp vs hv Qh k => by
  match vs, hv with
  | [v, w], hv => exact h σ R H rp v w hv.1 hv.2.1 Qh k
/-- len of a list, a tuple, a text -/
theorem vc_lenL {x : XV} {ds : List D} (hx : x.seqL = some ds) (q : Q (.p (.int ds.length))) : VC K G B (fun xs H Q => ∃ p ys, xs = [.ref p] ∧ (SqL K H p ys ∨ SqT K H p ys) ∧ Q (.int ys.length) H) env [x] Q := vc1 fun σ R H r v hv Qh k => by
  obtain ⟨a, xs, rfl, h1, h2⟩ := seqL_at r hv hx
  exact ⟨a, xs, rfl, .inl h1, by rw [h2.len]; exact k _ R H (.p (.int _)) r (Same.refl R) (.int _) q⟩
theorem vc_lenT {ds : List D} (q : Q (.p (.int ds.length))) : VC K G B (fun xs H Q => ∃ p ys, xs = [.ref p] ∧ (SqL K H p ys ∨ SqT K H p ys) ∧ Q (.int ys.length) H) env [.p (.tup ds)] Q := vc1 fun σ R H r v hv Qh k => by
  obtain ⟨a, xs, rfl, h1, _, h2⟩ := tup_at r hv
  exact ⟨a, xs, rfl, .inr h1, by rw [h2.len]; exact k _ R H (.p (.int _)) r (Same.refl R) (.int _) q⟩
theorem vc_lenS {z : Str} (hl : z.length ≤ 100000) (q : Q (.p (.int z.length))) : VC K G B (fun xs H Q => ∃ z, xs = [.str z] ∧ z.length ≤ sizeLine ∧ Q (.int z.length) H) env [.p (.str z)] Q := vc1 fun σ R H r v hv Qh k =>
  ⟨z, by rw [str_at hv], Nat.le_trans hl (by decide), k _ R H (.p (.int _)) r (Same.refl R) (.int _) q⟩
theorem vc_listL {x : XV} {ds : List D} (hx : x.seqL = some ds) (q : Q (.o (.lst ds))) : VC K G B (fun xs H Q => ∃ p ys, xs = [.ref p] ∧ (SqL K H p ys ∨ SqT K H p ys) ∧ ∀ l, H l = none → Q (.ref l) (upd H l (.lst ys))) env [x] Q := vc1 fun σ R H r v hv Qh k => by
  obtain ⟨a, xs, rfl, h1, h2⟩ := seqL_at r hv hx
  refine ⟨a, xs, rfl, .inl h1, fun l hl => ?_⟩
  obtain ⟨r2, v2⟩ := own_lst r hl h2
  exact k _ R _ _ r2 (Same.refl R) v2 q
theorem vc_listT {ds : List D} (q : Q (.o (.lst ds))) : VC K G B (fun xs H Q => ∃ p ys, xs = [.ref p] ∧ (SqL K H p ys ∨ SqT K H p ys) ∧ ∀ l, H l = none → Q (.ref l) (upd H l (.lst ys))) env [.p (.tup ds)] Q := vc1 fun σ R H r v hv Qh k => by
  obtain ⟨a, xs, rfl, h1, _, h2⟩ := tup_at r hv
  refine ⟨a, xs, rfl, .inr h1, fun l hl => ?_⟩
  obtain ⟨r2, v2⟩ := own_lst r hl h2
  exact k _ R _ _ r2 (Same.refl R) v2 q
theorem vc_tupL {x : XV} {ds : List D} (hx : x.seqL = some ds) (q : Q (.p (.tup ds))) : VC K G B (fun xs H Q => ∃ p ys, xs = [.ref p] ∧ ((SqL K H p ys ∧ ∀ l, H l = none → Q (.ref l) (upd H l (.tup ys))) ∨ (SqT K H p ys ∧ Q (.ref p) H))) env [x] Q := vc1 fun σ R H r v hv Qh k => by
  obtain ⟨a, xs, rfl, h1, h2⟩ := seqL_at r hv hx
  refine ⟨a, xs, rfl, .inl ⟨h1, fun l hl => ?_⟩⟩
  have hn := r.sub.none hl
  exact k _ _ _ (.p (.tup _)) (r.newP hl rfl) (same_take hn) (.tup (.inl (.inl upd_same)) (h2.same (same_take hn))) q
theorem vc_max2 {i j : Int} (q : Q (.p (.int (max i j)))) : VC K G B (fun xs H Q => ∃ i j, xs = [.int i, .int j] ∧ Q (.int (if j > i then j else i)) H) env [.p (.int i), .p (.int j)] Q := vc2 fun σ R H r v w hv hw Qh k => by
  refine ⟨i, j, by rw [int_at hv, int_at hw], ?_⟩
  have e : (if j > i then j else i) = max i j := by split <;> omega
  rw [e]
  exact k _ R H (.p (.int _)) r (Same.refl R) (.int _) q
theorem vc_min2 {i j : Int} (q : Q (.p (.int (min i j)))) : VC K G B (fun xs H Q => ∃ i j, xs = [.int i, .int j] ∧ Q (.int (if j < i then j else i)) H) env [.p (.int i), .p (.int j)] Q := vc2 fun σ R H r v w hv hw Qh k => by
  refine ⟨i, j, by rw [int_at hv, int_at hw], ?_⟩
  have e : (if j < i then j else i) = min i j := by split <;> omega
  rw [e]
  exact k _ R H (.p (.int _)) r (Same.refl R) (.int _) q
theorem vc_abs {i : Int} (q : Q (.p (.int (if i < 0 then -i else i)))) : VC K G B (fun xs H Q => ∃ i, xs = [.int i] ∧ Q (.int (if i < 0 then -i else i)) H) env [.p (.int i)] Q := vc1 fun σ R H r v hv Qh k =>
  ⟨i, by rw [int_at hv], k _ R H (.p (.int _)) r (Same.refl R) (.int _) q⟩
theorem vc_intB {b : Bool} (q : Q (.p (.int (if b then 1 else 0)))) : VC K G B (fun xs H Q => (∃ i, xs = [.int i] ∧ Q (.int i) H) ∨ ∃ k, xs = [.bl k] ∧ Q (.int (if k then 1 else 0)) H) env [.p (.bl b)] Q := vc1 fun σ R H r v hv Qh k =>
  .inr ⟨b, by rw [bl_at hv], k _ R H (.p (.int _)) r (Same.refl R) (.int _) q⟩
/-- typed lists -/
theorem ints_at {x : XV} {ns : List Int} (r : Rep K G B env σ R H) {v : V} (h : VAt K B env σ R H v x) (e : x.seqL = some (ns.map D.int)) : ∃ a, v = .ref a ∧ SqL K H a (ns.map V.int) := by
  obtain ⟨a, xs, rfl, h1, h2⟩ := seqL_at r h e
  rw [AtL.ints_inv h2] at h1
  exact ⟨a, rfl, h1⟩
theorem AtL.bls_inv : ∀ {vs : List V} {ns : List Bool}, AtL K R vs (ns.map D.bl) → vs = ns.map V.bl
  | _, [], h => by cases h; rfl
  | _, n :: r, h => by
    cases h with
    | cons h t =>
      cases h
      rw [AtL.bls_inv t]
      rfl
theorem AtL.strs_inv : ∀ {vs : List V} {ns : List Str}, AtL K R vs (ns.map D.str) → vs = ns.map V.str
  | _, [], h => by cases h; rfl
  | _, n :: r, h => by
    cases h with
    | cons h t =>
      cases h
      rw [AtL.strs_inv t]
      rfl
theorem vc_sum {x : XV} {ns : List Int} (hx : x.seqL = some (ns.map D.int)) (q : Q (.p (.int ns.sum))) : VC K G B (rSum K) env [x] Q := vc1 fun σ R H r v hv Qh k => by
  obtain ⟨a, rfl, h1⟩ := ints_at r hv hx
  exact ⟨a, ns, rfl, h1, k _ R H (.p (.int _)) r (Same.refl R) (.int _) q⟩
theorem vc_any {x : XV} {bs : List Bool} (hx : x.seqL = some (bs.map D.bl)) (q : Q (.p (.bl (bs.any id)))) : VC K G B (rAny K) env [x] Q := vc1 fun σ R H r v hv Qh k => by
  obtain ⟨a, xs, rfl, h1, h2⟩ := seqL_at r hv hx
  rw [AtL.bls_inv h2] at h1
  exact ⟨a, bs, rfl, h1, k _ R H (.p (.bl _)) r (Same.refl R) (.bl _) q⟩
theorem vc_all {x : XV} {bs : List Bool} (hx : x.seqL = some (bs.map D.bl)) (q : Q (.p (.bl (bs.all id)))) : VC K G B (rAll K) env [x] Q := vc1 fun σ R H r v hv Qh k => by
  obtain ⟨a, xs, rfl, h1, h2⟩ := seqL_at r hv hx
  rw [AtL.bls_inv h2] at h1
  exact ⟨a, bs, rfl, h1, k _ R H (.p (.bl _)) r (Same.refl R) (.bl _) q⟩

/-! ### slices -/
def VP (K : PySem.W.Frag) (G : Gs) (B : Bs) (t : TO) (env : Vn) (Q : Option Int → Prop) : Prop := ∀ σ R H, Rep K G B env σ R H → ∀ Qh : Option Int → Hp → Prop,
  (∀ o R' H', Rep K G B env σ R' H' → Same R R' → Q o → Qh o H') → t σ H Qh
theorem vp_none {Qo : Option Int → Prop} (q : Qo none) : VP K G B tNoPart env Qo := fun σ R H r Qh k => k none R H r (Same.refl R) q
theorem vp_some {Qo : Option Int → Prop} {te : TE} (h : VE K G B te env fun x => ∃ i, x = .p (.int i) ∧ Qo (some i)) : VP K G B (tPart te) env Qo := fun σ R H r Qh k => h σ R H r _ fun v R' H' x r' s' hv ⟨i, e, q⟩ => by
  subst e
  exact ⟨i, int_at hv, k _ R' H' r' s' q⟩
def VSl (K : PySem.W.Frag) (G : Gs) (B : Bs) (r : V → Option Int → Option Int → Hp → VK → Prop) (env : Vn) (x : XV) (lo hi : Option Int) (Q : XV → Prop) : Prop := ∀ σ R H, Rep K G B env σ R H → ∀ v, VAt K B env σ R H v x → ∀ Qh : VK,
  (∀ z R' H' x', Rep K G B env σ R' H' → Same R R' → VAt K B env σ R' H' z x' → Q x' → Qh z H') → r v lo hi H Qh
theorem ve_slice {r : V → Option Int → Option Int → Hp → VK → Prop} {te : TE} {tl th : TO} (h : VE K G B te env fun x => x.fz fun x => VP K G B tl env fun lo => VP K G B th env fun hi => VSl K G B r env x lo hi Q) : VE K G B (tSl r te tl th) env Q := fun σ R H rp Qh k =>
  h σ R H rp _ fun v R1 H1 x r1 s1 hv q => by
    obtain ⟨R2, x', r2, s2, hv2, ho, q2⟩ := hv.fz r1 q
    exact q2 σ R2 H1 r2 _ fun lo R3 H3 r3 s3 q3 => q3 σ R3 H3 r3 _ fun hi R4 H4 r4 s4 q4 => q4 σ R4 H4 r4 v (hv2.go ho (s3.trans s4)) Qh fun z R5 H5 x5 r5 s5 hz q5 => k z R5 H5 x5 r5 ((((s1.trans s2).trans s3).trans s4).trans s5) hz q5
def cutD (ds : List D) (lo hi : Option Int) : List D := (ds.drop (HT.sIx ds.length 0 lo)).take (HT.sIx ds.length ds.length hi - HT.sIx ds.length 0 lo)
theorem AtL.cut {xs : List V} {ds : List D} (h : AtL K R xs ds) (lo hi : Option Int) : AtL K R (cutV xs lo hi) (cutD ds lo hi) := by
  unfold cutV cutD
  rw [h.len]
  exact (h.drop _).take _
theorem vsl_list {x : XV} {ds : List D} {lo hi : Option Int} (hx : x.seqL = some ds) (q : Q (.o (.lst (cutD ds lo hi)))) : VSl K G B (rSlL K) env x lo hi Q := fun σ R H r v hv Qh k => by
  obtain ⟨a, xs, rfl, h1, h2⟩ := seqL_at r hv hx
  refine ⟨a, xs, rfl, h1, fun p hp => ?_⟩
  obtain ⟨r2, v2⟩ := own_lst r hp (h2.cut lo hi)
  exact k _ R _ _ r2 (Same.refl R) v2 q
theorem cutD_all {ds : List D} {lo hi : Option Int} (h : HT.sIx ds.length 0 lo = 0 ∧ HT.sIx ds.length ds.length hi = ds.length) : cutD ds lo hi = ds := by
  unfold cutD
  rw [h.1, h.2, List.drop_zero, Nat.sub_zero, List.take_length]
theorem vsl_tup {ds : List D} {lo hi : Option Int} (q : Q (.p (.tup (cutD ds lo hi)))) : VSl K G B (rSlA K) env (.p (.tup ds)) lo hi Q := fun σ R H r v hv Qh k => by
  obtain ⟨a, xs, rfl, h1, h1', h2⟩ := tup_at r hv
  refine ⟨a, xs, rfl, h1, fun e => ?_, fun _ p hp => ?_⟩
  · rw [h2.len] at e
    rw [cutD_all e] at q
    exact k _ R H (.p (.tup _)) r (Same.refl R) (.tup h1' h2) q
  · have hn := r.sub.none hp
    exact k _ _ _ (.p (.tup _)) (r.newP hp rfl) (same_take hn) (.tup (.inl (.inl upd_same)) ((h2.cut lo hi).same (same_take hn))) q
theorem vsl_str {z : Str} {lo hi : Option Int} (hl : z.length ≤ 100000) (q : Q (.p (.str (cutS z lo hi)))) : VSl K G B rSlS env (.p (.str z)) lo hi Q := fun σ R H r v hv Qh k =>
  ⟨z, str_at hv, Nat.le_trans hl (by decide), k _ R H (.p (.str _)) r (Same.refl R) (.str _) q⟩

/-! ### own lists change -/
/-- xs.append(e) -/
theorem vs_append {i : Nat} {te : TE} {ds : List D} (hd : env[i]? = some (.mu (.lst ds))) (h : VE K G B te env fun x => x.fz fun x => ∃ d, x = .p d ∧ ds.length < 100000 ∧ nx (env.set i (.mu (.lst (ds ++ [d]))))) :
    VS K G B (tDrop (tBM K "list" rAppend (tVar i) (tCons te tNil))) env nx rt bk ct := fun σ R H r Z kn _ _ _ => by
  obtain ⟨a, y, h1, h2, h3, h4, h5⟩ := r.slots i _ hd
  obtain ⟨xs, rfl⟩ : ∃ xs, y = .lst xs := by cases y <;> first | exact ⟨_, rfl⟩ | exact h5.elim
  refine ⟨.ref a, h1, .inl ⟨rfl, xs, .inl (.inl h4)⟩, h σ R H r _ fun v R1 H1 x r1 s1 hv q => ?_⟩
  obtain ⟨R2, x', r2, s2, hv2, ho, d, rfl, hl, q2⟩ := hv.fz r1 q
  obtain ⟨b, y, g1, g2, g3, g4, g5⟩ := r2.slots i _ hd
  rw [h1] at g1
  cases g1
  obtain ⟨ys, rfl⟩ : ∃ xs, y = .lst xs := by cases y <;> first | exact ⟨_, rfl⟩ | exact g5.elim
  refine ⟨a, ys, v, rfl, rfl, g4, by rw [AtL.len g5]; exact Nat.lt_of_lt_of_le hl (by decide), ?_⟩
  exact kn _ σ R2 _ (r2.mut hd h1 (y := .lst (ys ++ [v])) (d' := .lst (ds ++ [d])) (AtL.app g5 (.cons hv2 .nil))) (s1.trans s2) q2
/-- xs[e] = v -/
theorem vg_subL {i : Nat} {te : TE} {ds : List D} {d : D} (hd : env[i]? = some (.mu (.lst ds))) (h : VE K G B te env fun x => ∃ z j, x = .p (.int z) ∧ ixN ds.length z = some j ∧ Qe (env.set i (.mu (.lst (ds.set j d))))) :
    VG K G B (gSub (tVar i) te rSetL) (.p d) env Qe := fun σ R H r v hv Qh k => by
  obtain ⟨a, y, h1, _⟩ := r.slots i _ hd
  refine ⟨.ref a, h1, h σ R H r _ fun w R1 H1 x r1 s1 hw ⟨z, j, e, hj, q⟩ => ?_⟩
  subst e
  cases hw
  obtain ⟨b, y, g1, g2, g3, g4, g5⟩ := r1.slots i _ hd
  rw [h1] at g1
  cases g1
  obtain ⟨ys, rfl⟩ : ∃ xs, y = .lst xs := by cases y <;> first | exact ⟨_, rfl⟩ | exact g5.elim
  refine ⟨a, ys, z, j, rfl, rfl, g4, by rw [AtL.len g5]; exact hj, ?_⟩
  exact k _ σ R1 _ (r1.mut hd h1 (y := .lst (ys.set j v)) (d' := .lst (ds.set j d)) (AtL.set (At.same s1 hv) j g5)) s1 q
theorem vg_fz {g : TG} {d : D} (h : VG K G B g (.p d) env Qe) : VG K G B g (.o d) env Qe := fun σ R H r v hv Qh k => by
  obtain ⟨a, y, rfl, h0, hn, hy, hm, hs, hp⟩ := hv
  exact h σ (upd R a y) H (r.take hy (mat_mk hm) h0 hn hs hp) (.ref a) (At.of_mat hm hn) Qh fun e σ' R' H' r' s' q => k e σ' R' H' r' ((same_take hn).trans s') q
/-- x = xs.pop(), xs.pop(k) -/
theorem vs_pop {i : Nat} {g : TG} {ds : List D} {d : D} (hd : env[i]? = some (.mu (.lst ds))) (hl : ds[ds.length - 1]? = some d) (h : VG K G B g (.p d) (env.set i (.mu (.lst ds.dropLast))) nx) :
    VS K G B (tAsg (tBM0 K "list" rPop (tVar i)) g) env nx rt bk ct := fun σ R H r Z kn _ _ _ => by
  obtain ⟨a, y, h1, h2, h3, h4, h5⟩ := r.slots i _ hd
  obtain ⟨xs, rfl⟩ : ∃ xs, y = .lst xs := by cases y <;> first | exact ⟨_, rfl⟩ | exact h5.elim
  have h6 : AtL K R xs ds := h5
  obtain ⟨v, hv, hd'⟩ := h6.get hl
  refine ⟨.ref a, h1, .inl ⟨rfl, xs, .inl (.inl h4)⟩, a, xs, v, rfl, rfl, h4, by rw [h6.len]; exact hv, ?_⟩
  refine h σ R _ (r.mut hd h1 (y := .lst xs.dropLast) (d' := .lst ds.dropLast) ?_) v hd' _ fun e σ' R' H' r' s' q => kn e σ' R' H' r' s' q
  show AtL K R xs.dropLast ds.dropLast
  rw [List.dropLast_eq_take, List.dropLast_eq_take, h6.len]
  exact h6.take _
theorem vs_popAt {i : Nat} {te : TE} {g : TG} {ds : List D} (hd : env[i]? = some (.mu (.lst ds))) (h : VE K G B te env fun x => ∃ (z : Int) (j : Nat) (d : D), x = .p (.int z) ∧ -(2 ^ 63) ≤ z ∧ z < 2 ^ 63 ∧ seqIndex? z ds.length = some j ∧ ds[j]? = some d ∧ VG K G B g (.p d) (env.set i (.mu (.lst (ds.eraseIdx j)))) nx) :
    VS K G B (tAsg (tBM K "list" rPopAt (tVar i) (tCons te tNil)) g) env nx rt bk ct := fun σ R H r Z kn _ _ _ => by
  obtain ⟨a, y, h1, h2, h3, h4, h5⟩ := r.slots i _ hd
  obtain ⟨xs, rfl⟩ : ∃ xs, y = .lst xs := by cases y <;> first | exact ⟨_, rfl⟩ | exact h5.elim
  refine ⟨.ref a, h1, .inl ⟨rfl, xs, .inl (.inl h4)⟩, h σ R H r _ fun v R1 H1 x r1 s1 hv ⟨z, j, d, e, z1, z2, hj, hl, q⟩ => ?_⟩
  subst e
  cases hv
  obtain ⟨b, y, g1, g2, g3, g4, g5⟩ := r1.slots i _ hd
  rw [h1] at g1
  cases g1
  obtain ⟨ys, rfl⟩ : ∃ xs, y = .lst xs := by cases y <;> first | exact ⟨_, rfl⟩ | exact g5.elim
  have g6 : AtL K R1 ys ds := g5
  obtain ⟨v, hv, hd'⟩ := g6.get hl
  refine ⟨a, ys, z, j, v, rfl, rfl, g4, z1, z2, by rw [g6.len]; exact hj, hv, ?_⟩
  exact q σ R1 _ (r1.mut hd h1 (y := .lst (ys.eraseIdx j)) (d' := .lst (ds.eraseIdx j)) (g6.erase j)) v hd' _ fun e σ' R' H' r' s' q => kn e σ' R' H' r' (s1.trans s') q
/-- xs.insert(e, f) -/
theorem vs_insert {i : Nat} {te tf : TE} {ds : List D} (hd : env[i]? = some (.mu (.lst ds))) (h : VE K G B te env fun x => ∃ z, x = .p (.int z) ∧ 0 ≤ z ∧ z < 2 ^ 63 ∧ ds.length < 100000 ∧ VE K G B tf env fun y => y.fz fun y => ∃ d, y = .p d ∧ nx (env.set i (.mu (.lst (ds.take z.toNat ++ [d] ++ ds.drop z.toNat))))) :
    VS K G B (tDrop (tBM K "list" (fun x vs H Q => ∃ (l : Addr) (xs : List V) (i : Int) (y : V), x = .ref l ∧ vs = [.int i, y] ∧ H l = some (.lst xs) ∧ xs.length < sizeLine ∧ 0 ≤ i ∧ i < 2 ^ 63 ∧ Q .non (upd H l (.lst (xs.take i.toNat ++ [y] ++ xs.drop i.toNat)))) (tVar i) (tCons te (tCons tf tNil)))) env nx rt bk ct := fun σ R H r Z kn _ _ _ => by
  obtain ⟨a, y, h1, h2, h3, h4, h5⟩ := r.slots i _ hd
  obtain ⟨xs, rfl⟩ : ∃ xs, y = .lst xs := by cases y <;> first | exact ⟨_, rfl⟩ | exact h5.elim
  refine ⟨.ref a, h1, .inl ⟨rfl, xs, .inl (.inl h4)⟩, h σ R H r _ fun w R0 H0 x0 r0 s0 hw ⟨z, e, z0, z1, hl, h'⟩ => h' σ R0 H0 r0 _ fun v R1 H1 x r1 s1 hv q => ?_⟩
  subst e
  cases hw
  obtain ⟨R2, x', r2, s2, hv2, ho, d, rfl, q2⟩ := hv.fz r1 q
  obtain ⟨b, y, g1, g2, g3, g4, g5⟩ := r2.slots i _ hd
  rw [h1] at g1
  cases g1
  obtain ⟨ys, rfl⟩ : ∃ xs, y = .lst xs := by cases y <;> first | exact ⟨_, rfl⟩ | exact g5.elim
  have g6 : AtL K R2 ys ds := g5
  refine ⟨a, ys, z, v, rfl, rfl, g4, by rw [g6.len]; exact Nat.lt_of_lt_of_le hl (by decide), z0, z1, ?_⟩
  exact kn _ σ R2 _ (r2.mut hd h1 (y := .lst (ys.take z.toNat ++ [v] ++ ys.drop z.toNat)) (d' := .lst (ds.take z.toNat ++ [d] ++ ds.drop z.toNat)) (((g6.take _).app (.cons hv2 .nil)).app (g6.drop _))) ((s0.trans s1).trans s2) q2

/-! ### comprehensions -/
def TgOnly (g : TG) (vs : List Nat) : Prop := ∀ v σ H (Q Q' : L2.St → Hp → Prop), (∀ σ' H', wipe σ' vs = wipe σ vs → Q σ' H' → Q' σ' H') → g v σ H Q → g v σ H Q'
def TgsOnly (g : TGs) (vs : List Nat) : Prop := ∀ v σ H (Q Q' : L2.St → Hp → Prop), (∀ σ' H', wipe σ' vs = wipe σ vs → Q σ' H' → Q' σ' H') → g v σ H Q → g v σ H Q'
theorem wipe_set : ∀ (σ : L2.St) (vs : List Nat) (i : Nat) (x : Option V), i ∈ vs → wipe (σ.set i x) vs = wipe σ vs := by
  have out : ∀ (σ : L2.St) (vs : List Nat) (i : Nat) (x : Option V), i ∉ vs → wipe (σ.set i x) vs = (wipe σ vs).set i x := by
    intro σ vs
    induction vs with
    | nil => intro i x _; rfl
    | cons v r ih =>
      intro i x h
      have hv : i ≠ v := fun z => h (by rw [z]; exact List.mem_cons_self)
      show (wipe (σ.set i x) r).set v none = ((wipe σ r).set v none).set i x
      rw [ih i x fun z => h (List.mem_cons_of_mem _ z), List.set_comm _ _ (Ne.symm hv).symm]
  intro σ vs
  induction vs with
  | nil => intro i x h; cases h
  | cons v r ih =>
    intro i x h
    show (wipe (σ.set i x) r).set v none = (wipe σ r).set v none
    by_cases hr : i ∈ r
    · rw [ih i x hr]
    · have e : i = v := by
        rcases List.mem_cons.mp h with e | e
        · exact e
        · exact absurd e hr
      subst e
      rw [out σ r i x hr, List.set_set]
theorem only_name {i : Nat} {vs : List Nat} (h : i ∈ vs) : TgOnly (gName i) vs := fun v σ H Q Q' k q => k _ _ (wipe_set σ vs i _ h) q
theorem only_nil {vs : List Nat} : TgsOnly gNil vs := fun v σ H Q Q' k ⟨e, q⟩ => ⟨e, k _ _ rfl q⟩
theorem only_cons {t : TG} {u : TGs} {vs : List Nat} (h1 : TgOnly t vs) (h2 : TgsOnly u vs) : TgsOnly (gCons t u) vs := fun v σ H Q Q' k ⟨x, r, e, q⟩ =>
  ⟨x, r, e, h1 x σ H _ _ (fun σ' H' w q => h2 r σ' H' _ _ (fun σ2 H2 w2 q2 => k σ2 H2 (w2.trans w) q2) q) q⟩
theorem only_tup {n : Nat} {u : TGs} {vs : List Nat} (h2 : TgsOnly u vs) : TgOnly (gTup K n u) vs := fun v σ H Q Q' k ⟨a, xs, e, h, hl, q⟩ => ⟨a, xs, e, h, hl, h2 xs σ H _ _ k q⟩
theorem wipe_wipe (σ : L2.St) : ∀ vs, wipe (wipe σ vs) vs = wipe σ vs := by
  have h : ∀ (vs ws : List Nat) (τ : L2.St), (∀ v ∈ ws, v ∈ vs) → wipe (wipe τ ws) vs = wipe τ vs := by
    intro vs ws
    induction ws with
    | nil => intro τ _; rfl
    | cons w r ih =>
      intro τ hw
      show wipe ((wipe τ r).set w none) vs = wipe τ vs
      rw [wipe_set _ _ _ _ (hw w List.mem_cons_self)]
      exact ih τ fun v q => hw v (List.mem_cons_of_mem _ q)
  intro vs
  exact h vs vs σ fun v q => q
theorem wipe_get {σ : L2.St} : ∀ {vs : List Nat} {i : Nat}, i ∉ vs → (wipe σ vs)[i]? = σ[i]?
  | [], _, _ => rfl
  | v :: r, i, h => by
    show ((wipe σ r).set v none)[i]? = σ[i]?
    rw [List.getElem?_set_ne (fun z => h (by rw [z]; exact List.mem_cons_self))]
    exact wipe_get fun z => h (List.mem_cons_of_mem _ z)
theorem Rep.wiped (r : Rep K G B env σ R H) {vs : List Nat} (hu : ∀ v ∈ vs, env[v]? = some .u) : Rep K G B env (wipe σ vs) R H := by
  have hg : ∀ (j : Nat) sl, env[j]? = some sl → sl ≠ .u → (wipe σ vs)[j]? = σ[j]? := fun j sl q n => wipe_get fun z => n (by rw [hu j z] at q; exact (Option.some.inj q).symm)
  have ho : ∀ (j : Nat) sl a, env[j]? = some sl → Slot.owns (wipe σ vs)[j]? a sl → Slot.owns σ[j]? a sl := fun j sl a h o => by
    by_cases n : sl = .u
    · subst n
      exact o.elim
    · rw [hg j sl h n] at o
      exact o
  exact {
    sub0 := r.sub0
    tab := r.tab
    step := r.step
    len := by rw [wipe_length]; exact r.len
    slots := fun i sl q => by
      have := r.slots i sl q
      cases sl with
      | u => trivial
      | p d =>
        obtain ⟨v, h1, h2⟩ := this
        exact ⟨v, by rw [hg i _ q (fun z => by cases z)]; exact h1, h2⟩
      | mu d =>
        obtain ⟨a, y, h1, h2⟩ := this
        exact ⟨a, y, by rw [hg i _ q (fun z => by cases z)]; exact h1, h2⟩
      | hp gs => exact this
    dist := fun i j si sj a n hi hj o1 o2 => r.dist i j si sj a n hi hj (ho i si a hi o1) (ho j sj a hj o2)
    pr := fun q hq => by
      obtain ⟨h1, h2, h3, h0, h4⟩ := r.pr q hq
      exact ⟨h1, h2, h3, h0, fun j e hj o => h4 j e hj (ho j e _ hj o)⟩ }
def Agree (vs : List Nat) (env e : Vn) : Prop := e.length = env.length ∧ ∀ i : Nat, i ∉ vs → e[i]? = env[i]?
theorem Agree.refl {vs : List Nat} : Agree vs env env := ⟨rfl, fun _ _ => rfl⟩
theorem Agree.set {vs : List Nat} {e : Vn} {i : Nat} {s : Slot} (h : Agree vs env e) (hi : i ∈ vs) : Agree vs env (e.set i s) := ⟨by rw [List.length_set]; exact h.1, fun j hj => by
  rw [List.getElem?_set_ne (fun z => hj (by rw [← z]; exact hi))]
  exact h.2 j hj⟩
theorem Rep.unwiped {σ2 : L2.St} {e2 : Vn} {vs : List Nat} (r : Rep K G B env σ R H) (r2 : Rep K G B e2 σ2 R' H') (hu : ∀ v ∈ vs, env[v]? = some .u) (a : Agree vs env e2) (hw : wipe σ2 vs = wipe σ vs) : Rep K G B env σ R' H' := by
  have hs : ∀ i : Nat, i ∉ vs → σ2[i]? = σ[i]? := fun i hi => by rw [← wipe_get hi, hw, wipe_get hi]
  have he : ∀ (i : Nat) sl, env[i]? = some sl → sl ≠ .u → e2[i]? = some sl ∧ σ2[i]? = σ[i]? := fun i sl q n => by
    have hi : i ∉ vs := fun z => n (by rw [hu i z] at q; exact (Option.some.inj q).symm)
    exact ⟨by rw [a.2 i hi]; exact q, hs i hi⟩
  exact {
    sub0 := r.sub0
    tab := r.tab
    step := r2.step
    len := r.len
    dist := r.dist
    slots := fun i sl q => by
      by_cases n : sl = .u
      · subst n
        trivial
      · obtain ⟨q1, q2⟩ := he i sl q n
        have := r2.slots i sl q1
        cases sl with
        | u => trivial
        | p d =>
          obtain ⟨v, h1, h2⟩ := this
          exact ⟨v, by rw [← q2]; exact h1, h2⟩
        | mu d =>
          obtain ⟨a, y, h1, h2⟩ := this
          exact ⟨a, y, by rw [← q2]; exact h1, h2⟩
        | hp gs => exact this
    pr := fun q hq => by
      obtain ⟨h1, h2, h3, h4⟩ := r2.pr q hq
      exact ⟨h1, h2, h3, (r.pr q hq).2.2.2⟩ }
/-- [elt for target in iter if test] -/
theorem ve_lc {wi : TI} {g : TG} {tt : TT} {te : TE} {vs : List Nat} (hu : ∀ v ∈ vs, env[v]? = some .u) (ho : TgOnly g vs)
    (h : VI K G B wi env fun items => items.length < 100000 ∧ ∃ Iv : Nat → List D → Prop, Iv 0 [] ∧
      (∀ p (i : Nat) d acc, items[i]? = some d → Iv i acc → VG K G { B with pr := p :: B.pr } g (.p d) env fun e => Agree vs env e ∧ VT K G { B with pr := p :: B.pr } tt e fun b =>
        (b = true → VE K G { B with pr := p :: B.pr } te e fun x => x.fz fun x => ∃ y, x = .p y ∧ Iv (i + 1) (acc ++ [y])) ∧ (b = false → Iv (i + 1) acc)) ∧ (∀ acc, Iv items.length acc → Q (.o (.lst acc)))) :
    VE K G B (tLc wi g tt te vs) env Q := fun σ R H r Qh k =>
  h σ R H r _ fun J R1 H1 items r1 s1 wk ⟨hsz, Iv, h0, hs, he⟩ => by
    intro D hD
    refine ⟨fun i m H' => i + m = items.length ∧ ∃ R' xs ds, Rep K G { B with pr := (D, .lst xs) :: B.pr } env σ R' H' ∧ Same R1 R' ∧ AtL K R' xs ds ∧ ds.length ≤ i ∧ Iv i ds,
      ⟨items.length, Nat.zero_add _, R1, [], [], (r1.new hD).guard (r1.fresh hD) (r1.sub.none hD) upd_same rfl (r1.noslot hD), Same.refl _, .nil, Nat.le_refl _, h0⟩, ?_⟩
    rintro i m H' ⟨hi, R', xs, ds, r', s', ha, hl, q⟩
    obtain ⟨d1, d2, d3, _, d4⟩ := r'.guarded
    have ru := r'.unguard
    by_cases hm : m = 0
    · subst hm
      have ei : i = items.length := hi
      subst ei
      refine .inl ⟨wk.stop _ env σ R' H' r' s', k (.ref D) R' H' (.o (.lst ds)) ru (s1.trans s') ⟨D, _, rfl, d1, d2, d3, ha, d4, ?_⟩ (he ds q)⟩
      -- no elder protected object is D
      intro p hp e
      have h3 := (r1.pr p hp).2.2.1
      rw [e, hD] at h3
      cases h3
    · have hlt : i < items.length := by omega
      have rw' := r'.wiped hu
      obtain ⟨g1, g2⟩ := wk.go _ env _ R' H' rw' s' i items[i] (List.getElem?_eq_getElem hlt)
      refine .inr ⟨g1, fun H2 => ∃ R' xs ds, Rep K G { B with pr := (D, .lst xs) :: B.pr } env σ R' H2 ∧ Same R1 R' ∧ AtL K R' xs ds ∧ ds.length ≤ i + 1 ∧ Iv (i + 1) ds, fun H2 ⟨R2, ys, es, a, b, c, d, e⟩ => ⟨m - 1, by omega, by omega, R2, ys, es, a, b, c, d, e⟩, fun v H2 hy => ?_⟩
      obtain ⟨R2, r2, s2, hv⟩ := g2 v H2 hy
      have st2 : Same R1 R2 := s'.trans s2
      refine ho v (wipe σ vs) H2 _ _ ?_ (hs _ i items[i] ds (List.getElem?_eq_getElem hlt) q _ R2 H2 r2 v hv (fun σ3 H3 => ∃ e R3, Rep K G { B with pr := (D, .lst xs) :: B.pr } e σ3 R3 H3 ∧ Same R2 R3 ∧ Agree vs env e ∧ VT K G { B with pr := (D, .lst xs) :: B.pr } tt e _) fun e σ3 R3 H3 r3 s3 q3 => ⟨e, R3, r3, s3, q3.1, q3.2⟩)
      rintro σ3 H3 hw ⟨e, R3, r3, s3, hag, q3⟩
      have hw3 : wipe σ3 vs = wipe σ vs := hw.trans (wipe_wipe σ vs)
      refine ⟨hw3, q3 σ3 R3 H3 r3 _ fun b R4 H4 r4 s4 q4 => ?_⟩
      cases b with
      | false =>
        have st4 : Same R1 R4 := (st2.trans s3).trans s4
        exact iteF ⟨R4, xs, ds, r'.unwiped r4 hu hag hw3, st4, ha.same ((s2.trans s3).trans s4), Nat.le_succ_of_le hl, q4.2 rfl⟩
      | true =>
        refine iteT (q4.1 rfl σ3 R4 H4 r4 _ fun w R5 H5 x r5 s5 hw5 q5 => ?_)
        obtain ⟨R6, x', r6, s6, hv6, hof, y, rfl, q6⟩ := hw5.fz r5 q5
        obtain ⟨f1, f2, f3, _, f4⟩ := r6.guarded
        have st6 : Same R1 R6 := ((((st2.trans s3).trans s4).trans s5).trans s6)
        have st6' : Same R' R6 := ((((s2.trans s3).trans s4).trans s5).trans s6)
        refine ⟨xs, f3, by rw [ha.len]; exact Nat.lt_of_le_of_lt hl (Nat.lt_trans hlt (Nat.lt_of_lt_of_le hsz (by decide))), R6, xs ++ [w], ds ++ [y], ?_, st6, (ha.same st6').app (.cons hv6 .nil), ?_, q6⟩
        · have r7 := (r'.unwiped r6 hu hag hw3)
          have r8 := r7.unguard
          have np : ∀ q ∈ B.pr, q.1 ≠ D := fun p hp e => by
            have h3 := (r1.pr p hp).2.2.1
            rw [e, hD] at h3
            cases h3
          exact (r8.mutA (y := .lst (xs ++ [w])) f3 rfl f1 f2 d4 np).guard f1 f2 upd_same rfl d4
        · rw [List.length_append]
          exact Nat.succ_le_succ hl
/-- .. of one thing an item -/
theorem ve_lcm {wi : TI} {g : TG} {tt : TT} {te : TE} {vs : List Nat} (hu : ∀ v ∈ vs, env[v]? = some .u) (ho : TgOnly g vs) 
    (h : VI K G B wi env fun items => items.length < 100000 ∧ ∃ f : D → Option D,
      (∀ p (i : Nat) d, items[i]? = some d → VG K G { B with pr := p :: B.pr } g (.p d) env fun e => Agree vs env e ∧ VT K G { B with pr := p :: B.pr } tt e fun b =>
        (b = true → VE K G { B with pr := p :: B.pr } te e fun x => x.fz fun x => ∃ y, x = .p y ∧ f d = some y) ∧ (b = false → f d = none)) ∧ Q (.o (.lst (items.filterMap f)))) :
    VE K G B (tLc wi g tt te vs) env Q := ve_lc hu ho fun σ R H r Qh k => h σ R H r _ fun J R1 H1 items r1 s1 wk ⟨hsz, f, hs, q⟩ => k J R1 H1 items r1 s1 wk
  ⟨hsz, fun i acc => acc = (items.take i).filterMap f, rfl, fun p i d acc hi e => by
    subst e
    have et : items.take (i + 1) = items.take i ++ [d] := by rw [List.take_add_one, hi]; rfl
    refine fun σ R H r v hv Qh k => hs p i d hi σ R H r v hv Qh fun e σ' R' H' r' s' ⟨ha, q⟩ => k e σ' R' H' r' s' ⟨ha, fun σ R H r Qh k => q σ R H r Qh fun b R' H' r' s' q => k b R' H' r' s' ⟨fun hb σ R H r Qh k => q.1 hb σ R H r Qh fun v R' H' x r' s' hv q => k v R' H' x r' s' hv ?_, fun hb => ?_⟩⟩
    · have key : ∀ y, f d = some y → (items.take i).filterMap f ++ [y] = (items.take (i + 1)).filterMap f := fun y hf => by
        rw [et, List.filterMap_append]
        simp [hf]
      cases x with
      | p d' =>
        obtain ⟨y, e, hf⟩ := q
        cases e
        exact fz_p ⟨_, rfl, key _ hf⟩
      | o d' =>
        obtain ⟨y, e, hf⟩ := q
        cases e
        exact fz_o ⟨_, rfl, key _ hf⟩
      | m _ d' =>
        obtain ⟨y, e, hf⟩ := q
        cases e
    · show (items.take i).filterMap f = (items.take (i + 1)).filterMap f
      rw [et, List.filterMap_append]
      simp [q.2 hb], fun acc e => by
    subst e
    rw [List.take_length]
    exact q⟩
/-- no tests, one test -/
theorem vt_yes (q : Qb true) : VT K G B tYes env Qb := fun σ R H r Qh k => k true R H r (Same.refl R) q
/-! ### one step of a reading -/
theorem ex_bl {Qb : Bool → Prop} {b : Bool} (q : Qb b) : ∃ c, XV.p (.bl b) = XV.p (.bl c) ∧ Qb c := ⟨b, rfl, q⟩
theorem ex_int {Qb : Int → Prop} {b : Int} (q : Qb b) : ∃ c, XV.p (.int b) = XV.p (.int c) ∧ Qb c := ⟨b, rfl, q⟩
theorem ex_io {Qb : Option Int → Prop} {b : Int} (q : Qb (some b)) : ∃ c, XV.p (.int b) = XV.p (.int c) ∧ Qb (some c) := ⟨b, rfl, q⟩
theorem ex_plains {Q : List D → Prop} {xs : List XV} {ds : List D} (h : XV.plains xs = some ds) (hl : Nat.ble ds.length 100000 = true) (q : Q ds) : ∃ ds, XV.plains xs = some ds ∧ ds.length ≤ 100000 ∧ Q ds := ⟨ds, h, Nat.le_of_ble_eq_true hl, q⟩
end
end VL

namespace VL
open PySem L2
section
variable {K : PySem.W.Frag} {G : Gs} {B : Bs} {env : Vn} {σ : L2.St} {R R' R1 H H' H1 : Hp} {Q : XV → Prop} {nx : Vn → Prop} {rt : XV → Prop} {bk ct : Vn → Prop} {Qe : Vn → Prop} {Qb : Bool → Prop} {Ql : List D → Prop}

theorem and_f {b : Bool} {A B : Prop} (hb : b = false) (q : B) : (b = true → A) ∧ (b = false → B) := ⟨fun h => (by rw [hb] at h; cases h), fun _ => q⟩
theorem and_t {b : Bool} {A B : Prop} (hb : b = true) (q : A) : (b = true → A) ∧ (b = false → B) := ⟨fun _ => q, fun h => (by rw [hb] at h; cases h)⟩
theorem vs_cut {t : TS} (M : Vn → Prop) (h : VS K G B t env M rt bk ct) (k : ∀ e, M e → nx e) : VS K G B t env nx rt bk ct := fun σ R H r Z kn kr kb kc => h σ R H r Z (fun e σ' R' H' r' s' q => kn e σ' R' H' r' s' (k e q)) kr kb kc
theorem flat_ints (ns : List Int) : D.flat (.lst (ns.map D.int)) = true := by
  show (ns.map D.int).all (D.deepT 9) = true
  rw [List.all_map]
  exact List.all_eq_true.mpr fun _ _ => rfl
theorem cutD_ints (ns : List Int) (lo hi : Option Int) : cutD (ns.map D.int) lo hi = ((ns.drop (HT.sIx ns.length 0 lo)).take (HT.sIx ns.length ns.length hi - HT.sIx ns.length 0 lo)).map D.int := by
  unfold cutD
  rw [List.length_map, ← List.map_drop, ← List.map_take]
theorem atI_map {ns : List Int} {j : Nat} {n : Int} (h : ns[j]? = some n) : atI (ns.map D.int) (j : Int) = some (.int n) := atI_nat (by rw [List.getElem?_map, h]; rfl)
theorem sIx_nn {n d : Nat} {k : Int} (h : 0 ≤ k) : HT.sIx n d (some k) = min k.toNat n := by
  show (if k < 0 then (k + (n : Int)).toNat else min k.toNat n) = min k.toNat n
  rw [if_neg (by omega)]

/-! ### a call to which slots' objects are lent -/
def MuAt (env : Vn) (σ : L2.St) (b : Addr) : Prop := ∃ (i : Nat) (sl : Slot), env[i]? = some sl ∧ Slot.owns σ[i]? b sl
open Classical in
noncomputable def lend (R H : Hp) (env : Vn) (σ : L2.St) : Hp := fun b => if MuAt env σ b then H b else R b
open Classical in
noncomputable def cutMu (R : Hp) (env : Vn) (σ : L2.St) : Hp := fun b => if MuAt env σ b then none else R b
theorem lend_mu {b : Addr} (h : MuAt env σ b) : lend R H env σ b = H b := if_pos h
theorem lend_no {b : Addr} (h : ¬ MuAt env σ b) : lend R H env σ b = R b := if_neg h
theorem cut_mu {b : Addr} (h : MuAt env σ b) : cutMu R env σ b = none := if_pos h
theorem cut_no {b : Addr} (h : ¬ MuAt env σ b) : cutMu R env σ b = R b := if_neg h
theorem Rep.mu (r : Rep K G B env σ R H) {b : Addr} (h : MuAt env σ b) : R b = none ∧ ∃ y, H b = some y ∧ isLD y = true := by
  obtain ⟨i, sl, h1, h2⟩ := h
  exact (r.own h1 h2).2
theorem at_cut (hc : ∀ b, MuAt env σ b → ∃ y, R b = some y ∧ isLD y = true) : ∀ (n : Nat) {v : V} {d : D}, D.deepT n d = true → At K R v d → At K (cutMu R env σ) v d := by
  intro n
  induction n with
  | zero => intro v d h _; cases h
  | succ n ih =>
    intro v d h t
    cases t with
    | non => exact .non
    | bl b => exact .bl b
    | int i => exact .int i
    | str x => exact .str x
    | ty n => exact .ty n
    | @tup b xs ds hs ht =>
      have hn : ∀ u, R b = some u → isLD u = false → cutMu R env σ b = R b := fun u e hu => cut_no fun z => by
        obtain ⟨y, h1, h2⟩ := hc b z
        rw [e] at h1
        cases h1
        rw [hu] at h2
        cases h2
      refine .tup (xs := xs) ?_ ?_
      · rcases hs with (hs | ⟨o, hs⟩) | hs
        · exact .inl (.inl (by rw [hn _ hs rfl]; exact hs))
        · exact .inl (.inr ⟨o, by rw [hn _ hs rfl]; exact hs⟩)
        · exact .inr hs
      · have hd : ∀ d ∈ ds, D.deepT n d = true := List.all_eq_true.mp h
        exact ht.imp fun v d hm => ih (hd d hm)
    | lst _ _ => cases h
    | ro _ _ => cases h
    | dct _ _ => cases h
    | lkd _ _ => cases h
    | @st b φ hs =>
      refine .st (φ := φ) ?_
      rw [cut_no]
      · exact hs
      · intro z
        obtain ⟨y, h1, h2⟩ := hc b z
        rw [hs] at h1
        cases h1
        cases h2
    | ptr b => exact .ptr b
    | @cm b i j hs =>
      refine .cm (i := i) (j := j) ?_
      rw [cut_no]
      · exact hs
      · intro z
        obtain ⟨y, h1, h2⟩ := hc b z
        rw [hs] at h1
        cases h1
        cases h2
def XV.lent : List XV → Option (List D)
  | [] => some []
  | .p d :: r => match XV.lent r with
    | some ds => some (d :: ds)
    | none => none
  | .m _ d :: r => match XV.lent r with
    | some ds => some (d :: ds)
    | none => none
  | .o _ :: _ => none
theorem lent_at (r : Rep K G B env σ R H) : ∀ {vs : List V} {xs : List XV} {ds : List D}, XV.lent xs = some ds → VAtL K B env σ R H vs xs → AtL K (lend R H env σ) vs ds
  | [], [], _, e, _ => by
    cases e
    exact .nil
  | [], _ :: _, _, _, h => h.elim
  | _ :: _, [], _, _, h => h.elim
  | v :: vs, .p d :: xs, ds, e, h => by
    unfold XV.lent at e
    cases q : XV.lent xs with
    | none =>
      rw [q] at e
      cases e
    | some es =>
      rw [q] at e
      cases e
      have s : Same R (lend R H env σ) := fun b x e => by
        rw [lend_no]
        · exact e
        · intro z
          rw [(r.mu z).1] at e
          cases e
      exact .cons (At.same s h.1) (lent_at r q h.2)
  | v :: vs, .m i d :: xs, ds, e, h => by
    unfold XV.lent at e
    cases q : XV.lent xs with
    | none =>
      rw [q] at e
      cases e
    | some es =>
      rw [q] at e
      cases e
      have s : Same R (lend R H env σ) := fun b x e => by
        rw [lend_no]
        · exact e
        · intro z
          rw [(r.mu z).1] at e
          cases e
      refine .cons ?_ (lent_at r q h.2)
      obtain ⟨h1, h2⟩ := h.1
      obtain ⟨a, y, g1, g2, g3, g4, g5⟩ := r.slots i _ h1
      rw [g1] at h2
      cases h2
      have e : lend R H env σ a = some y := (lend_mu ⟨i, _, h1, g1⟩).trans g4
      cases y <;> cases d <;> first
        | exact g5.elim
        | exact .lst e (AtL.same s g5)
        | exact .dct e (AtD.same s g5)
  | _ :: _, .o _ :: _, _, e, _ => by cases e
theorem ve_callM {α : Type} {fr : Bool} {args : α → List D} {pre : α → Prop} {post : α → D → Prop} {rs : α → Addr → Prop} {E : XK} {X : Addr → Prop} {t : TA} (L : Lets K G B E X)
    (h : VA K G B t env fun xs => ∃ x, XV.lent xs = some (args x) ∧ pre x ∧ (∀ C, rs x C → X C) ∧ ∀ d, post x d → D.deepT 9 d = true ∧ Q (.p d)) : VE K G B (tCall (SpA K G fr args pre post rs) [] E t) env Q := fun σ R H rp Qh k =>
  h σ R H rp _ fun vs R1 H1 xs r1 s1 hv _ ⟨x, e, hp, hr, q⟩ => by
    rw [List.append_nil]
    have key : ∀ R' H', Step K G (lend R1 H1 env σ) H1 R' H' → Step K G R1 H1 (cutMu R' env σ) H' := fun R' H' s => {
      same := fun b x e => by
        have nb : ¬ MuAt env σ b := fun z => by
          rw [(r1.mu z).1] at e
          cases e
        rw [cut_no nb]
        exact s.same b x ((lend_no nb).trans e)
      sub := fun b x e => by
        by_cases z : MuAt env σ b
        · rw [cut_mu z] at e
          cases e
        · rw [cut_no z] at e
          exact s.sub b x e
      kept := fun b y e n => s.kept b y e fun m z => by
        by_cases w : MuAt env σ b
        · rw [lend_mu w, e] at z
          cases z
          obtain ⟨_, y', h1, h2⟩ := r1.mu w
          rw [e] at h1
          cases h1
          exact ld_mk h2
        · rw [lend_no w] at z
          exact n m z
      out := fun b y e hd n => by
        by_cases w : MuAt env σ b
        · exact cut_mu w
        · rw [cut_no w]
          exact s.out b y e hd ((lend_no w).trans n) }
    have sub : Sub K G (lend R1 H1 env σ) H1 := fun b x e => by
      by_cases w : MuAt env σ b
      · rw [lend_mu w] at e
        obtain ⟨_, y, h1, h2⟩ := r1.mu w
        rw [e] at h1
        cases h1
        exact subAt_of e (ld_mk h2)
      · rw [lend_no w] at e
        exact r1.sub b x e
    have tb : TabIn G (lend R1 H1 env σ) := TabIn.go r1.tab' fun b z e => by
      rw [lend_no]
      · exact e
      · intro w
        rw [(r1.mu w).1] at e
        cases e
    refine ⟨lend R1 H1 env σ, x, ⟨sub, tb⟩, lent_at r1 e hv, hp, fun v R' H' d s ha _ hd => ?_, fun C R' H' s hc => L C (cutMu R' env σ) H' (r1.step.trans (key R' H' s)) (hr C hc)⟩
    obtain ⟨fl, q⟩ := q d hd
    have st := key R' H' s
    refine k v (cutMu R' env σ) H' (.p d) (r1.go st) (s1.trans st.same) (at_cut (fun b w => ?_) 9 fl ha) q
    obtain ⟨_, y, h1, h2⟩ := r1.mu w
    exact ⟨y, s.same b y ((lend_mu w).trans h1), h2⟩

/-! ### products, and what stands either way -/
theorem vo_orL {r r' : R2} {x y : XV} (h : VO K G B r env x y Q) : VO K G B (fun x y H Q => r x y H Q ∨ r' x y H Q) env x y Q := fun σ R H rp v w hv hw Qh k => .inl (h σ R H rp v w hv hw Qh k)
theorem vo_orR {r r' : R2} {x y : XV} (h : VO K G B r' env x y Q) : VO K G B (fun x y H Q => r x y H Q ∨ r' x y H Q) env x y Q := fun σ R H rp v w hv hw Qh k => .inr (h σ R H rp v w hv hw Qh k)
theorem vo_mul {i j : Int} (hc : CMul i j ∨ CMulW i j) (q : Q (.p (.int (i * j)))) : VO K G B (fun x y H Q => rI CMul (fun i j => .int (i * j)) x y H Q ∨ rI CMulW (fun i j => .int (i * j)) x y H Q) env (.p (.int i)) (.p (.int j)) Q := by
  rcases hc with hc | hc
  · exact vo_orL (vo_I hc q)
  · exact vo_orR (vo_I hc q)
theorem vo_div {i j : Int} (hc : CDivW i j) (q : Q (.p (.int (i / j)))) : VO K G B (rI CDivW fun i j => .int (i / j)) env (.p (.int i)) (.p (.int j)) Q := vo_I hc q
theorem vo_mod {i j : Int} (hc : 0 < j) (q : Q (.p (.int (i % j)))) : VO K G B (rI (fun _ j => 0 < j) fun i j => .int (i % j)) env (.p (.int i)) (.p (.int j)) Q := vo_I hc q
theorem vo_pow {i j : Int} (hc : CPow i j) (q : Q (.p (.int (i ^ j.toNat)))) : VO K G B (rI CPow fun i j => .int (i ^ j.toNat)) env (.p (.int i)) (.p (.int j)) Q := vo_I hc q

theorem vo_mulq {i j : Int} (q : Q (.p (.int (i * j)))) (hc : CMul i j ∨ CMulW i j) : VO K G B (fun x y H Q => rI CMul (fun i j => .int (i * j)) x y H Q ∨ rI CMulW (fun i j => .int (i * j)) x y H Q) env (.p (.int i)) (.p (.int j)) Q := vo_mul hc q
theorem vo_divq {i j : Int} (q : Q (.p (.int (i / j)))) (hc : CDivW i j) : VO K G B (rI CDivW fun i j => .int (i / j)) env (.p (.int i)) (.p (.int j)) Q := vo_I hc q
theorem vo_modq {i j : Int} (q : Q (.p (.int (i % j)))) (hc : 0 < j) : VO K G B (rI (fun _ j => 0 < j) fun i j => .int (i % j)) env (.p (.int i)) (.p (.int j)) Q := vo_I hc q
theorem vo_ixLq {x : XV} {ds : List D} {i : Int} {d : D} (q : Q (.p d)) (hx : x.seqL = some ds) (hi : atI ds i = some d) : VO K G B (rIxL K) env x (.p (.int i)) Q := vo_ixL hx hi q

/-! ### isinstance -/
theorem ve_ty {n : String} (q : Q (.p (.ty n))) : VE K G B (tC (.ty n)) env Q := fun σ R H r Qh k => k _ R H (.p (.ty n)) r (Same.refl R) (At.ty n) q
def XV.tyOf : XV → Option String
  | .p .non => some "NoneType"
  | .p (.bl _) => some "bool"
  | .p (.int _) => some "int"
  | .p (.str _) => some "str"
  | .p (.tup _) => some "tuple"
  | .p (.lst _) => some "list"
  | .p (.ro _) => some "list"
  | .p (.dct _) => some "dict"
  | .m _ (.lst _) => some "list"
  | .m _ (.dct _) => some "dict"
  | _ => none
theorem tyL {a : Addr} {xs : List V} (h : SqL K H a xs) : TyX K H (.ref a) (.type "list") := by
  rcases h with (h | ⟨o, h⟩) | ⟨o, its, n, h, c, _⟩
  · exact .base (.lst h)
  · exact .base (.frz h)
  · exact .kList h c
theorem tyT {a : Addr} {xs : List V} (h : SqT K H a xs) : TyX K H (.ref a) (.type "tuple") := by
  rcases h with (h | ⟨o, h⟩) | ⟨o, its, n, h, c, _⟩
  · exact .base (.tup h)
  · exact .fTuple h
  · exact .kTuple h c
theorem tyOf_at (r : Rep K G B env σ R H) {v : V} {x : XV} {t : String} (h : VAt K B env σ R H v x) (e : x.tyOf = some t) : TyX K H v (.type t) := by
  cases x with
  | o d => cases e
  | p d =>
    cases d with
    | non => cases e; cases h; exact .base .non
    | bl b => cases e; cases h; exact .base (.bl _)
    | int b => cases e; cases h; exact .base (.int _)
    | str b => cases e; cases h; exact .base (.str _)
    | tup b =>
      cases e
      cases h with
      | tup h _ => exact tyT (r.sub.t h)
    | lst b =>
      cases e
      cases h with
      | lst h _ => exact tyL (r.sub.l (.inl (.inl h)))
    | ro b =>
      cases e
      cases h with
      | ro h _ => exact tyL (r.sub.l h)
    | dct b =>
      cases e
      cases h with
      | dct h _ =>
        exact .base (.dK (r.sub.of h (rfl)))
    | lkd a b => cases e
    | st => cases e
    | cm => cases e
    | ptr a => cases e
    | ty n => cases e
  | m i d =>
    obtain ⟨h1, h2⟩ := h
    obtain ⟨a, y, g1, g2, g3, g4, g5⟩ := r.slots i _ h1
    rw [g1] at h2
    cases h2
    cases d <;> cases y <;> first | exact g5.elim | (cases e; exact .base (.lst g4)) | (cases e; exact .base (.dK g4))
theorem vc_isi {x : XV} {t u : String} {b : Bool} (hx : x.tyOf = some t) (hb : kitB t u = some b) (q : Q (.p (.bl b))) : VC K G B (rIsi K) env [x, .p (.ty u)] Q := vc2 fun σ R H r v w hv hw Qh k => by
  cases hw
  exact ⟨v, .ty u, .type t, .type u, b, rfl, .ty u, tyOf_at r hv hx, kit_ty hb, k _ R H (.p (.bl b)) r (Same.refl R) (.bl b) q⟩

/-! ### == of data of any depth -/
mutual
def D.py : D → PyData
  | .non => .none
  | .bl b => .bool b
  | .int i => .int i
  | .str x => .str x
  | .tup ds => .tuple (D.pys ds)
  | .lst ds => .list (D.pys ds)
  | .ro ds => .list (D.pys ds)
  | .dct _ => .none
  | .lkd _ _ => .none
  | .st => .none
  | .cm => .none
  | .ptr _ => .none
  | .ty _ => .none
def D.pys : List D → List PyData
  | [] => []
  | d :: r => D.py d :: D.pys r
end
mutual
/-- what may be compared: no dict, texts of real signs -/
def D.cmp : D → Bool
  | .non => true
  | .bl _ => true
  | .int _ => true
  | .str x => PyData.strOk x
  | .tup ds => D.cmps ds
  | .lst ds => D.cmps ds
  | .ro ds => D.cmps ds
  | .dct _ => false
  | .lkd _ _ => false
  | .st => false
  | .cm => false
  | .ptr _ => false
  | .ty _ => false
def D.cmps : List D → Bool
  | [] => true
  | d :: r => D.cmp d && D.cmps r
end
mutual
theorem at_dp (s : Sub K G R H) : ∀ {v : V} {d : D}, At K R v d → d.cmp = true → Dp K H v d.py
  | _, _, .non, _ => .non
  | _, _, .bl b, _ => .bl b
  | _, _, .int i, _ => .int i
  | _, _, .str x, _ => .str x
  | _, _, .tup h t, e => by
    simp only [D.cmp] at e
    simp only [D.py]
    exact .tup (s.t h) (at_dps s t e)
  | _, _, .lst h t, e => by
    simp only [D.cmp] at e
    simp only [D.py]
    exact .lst (s.l (.inl (.inl h))) (at_dps s t e)
  | _, _, .ro h t, e => by
    simp only [D.cmp] at e
    simp only [D.py]
    exact .lst (s.l h) (at_dps s t e)
  | _, _, .dct _ _, e => by simp [D.cmp] at e
  | _, _, .lkd _ _, e => by simp [D.cmp] at e
  | _, _, .st _, e => by simp [D.cmp] at e
  | _, _, .cm _, e => by simp [D.cmp] at e
  | _, _, .ptr _, e => by simp [D.cmp] at e
  | _, _, .ty _, e => by simp [D.cmp] at e
theorem at_dps (s : Sub K G R H) : ∀ {vs : List V} {ds : List D}, AtL K R vs ds → D.cmps ds = true → DpAll K H vs (D.pys ds)
  | _, _, .nil, _ => .nil
  | _, _, .cons h t, e => by
    simp only [D.cmps, Bool.and_eq_true] at e
    simp only [D.pys]
    exact .cons (at_dp s h e.1) (at_dps s t e.2)
end
def XV.dat : XV → Option D
  | .p d => some d
  | .m _ (.lst ds) => some (.lst ds)
  | _ => none
theorem dat_dp (r : Rep K G B env σ R H) {v : V} {x : XV} {d : D} (h : VAt K B env σ R H v x) (e : x.dat = some d) (hc : d.cmp = true) : Dp K H v d.py := by
  cases x with
  | p d' => cases e; exact at_dp r.sub h hc
  | o d' => cases e
  | m i d' =>
    cases d' with
    | lst ds =>
      cases e
      obtain ⟨h1, h2⟩ := h
      obtain ⟨a, y, g1, g2, g3, g4, g5⟩ := r.slots i _ h1
      rw [g1] at h2
      cases h2
      cases y with
      | lst xs =>
        simp only [D.cmp] at hc
        simp only [D.py]
        exact .lst (.inl (.inl g4)) (at_dps r.sub g5 hc)
      | _ => exact g5.elim
    | _ => cases e
theorem vo_eqD {x y : XV} {d e : D} (hx : x.dat = some d) (hy : y.dat = some e) (h : d.cmp = true ∧ e.cmp = true ∧ SeqAt.shaped d.py = true ∧ SeqAt.shaped e.py = true) (q : Q (.p (.bl (PyData.eqv d.py e.py)))) : VO K G B (rEqD K) env x y Q := fun σ R H r v w hv hw Qh k =>
  ⟨d.py, e.py, dat_dp r hv hx h.1, dat_dp r hw hy h.2.1, h.2.2.1, h.2.2.2, k _ R H (.p (.bl _)) r (Same.refl R) (.bl _) q⟩
theorem vo_neD {x y : XV} {d e : D} (hx : x.dat = some d) (hy : y.dat = some e) (h : d.cmp = true ∧ e.cmp = true ∧ SeqAt.shaped d.py = true ∧ SeqAt.shaped e.py = true) (q : Q (.p (.bl (!PyData.eqv d.py e.py)))) : VO K G B (rNeD K) env x y Q := fun σ R H r v w hv hw Qh k =>
  ⟨d.py, e.py, dat_dp r hv hx h.1, dat_dp r hw hy h.2.1, h.2.2.1, h.2.2.2, k _ R H (.p (.bl _)) r (Same.refl R) (.bl _) q⟩
/-- comparable, at most so deep -/
def D.cmpN : Nat → D → Bool
  | 0, d => match d with
    | .non => true
    | .bl _ => true
    | .int _ => true
    | .str x => PyData.strOk x
    | _ => false
  | n + 1, d => match d with
    | .non => true
    | .bl _ => true
    | .int _ => true
    | .str x => PyData.strOk x
    | .tup ds => ds.all (D.cmpN n)
    | .lst ds => ds.all (D.cmpN n)
    | .ro ds => ds.all (D.cmpN n)
    | _ => false
theorem cmpN_all {n : Nat} (ih : ∀ d : D, D.cmpN n d = true → d.cmp = true ∧ PyData.canLay0 d.py = true ∧ PyData.depth d.py ≤ n) : ∀ ds : List D, ds.all (D.cmpN n) = true → D.cmps ds = true ∧ PyData.canLayAll0 (D.pys ds) = true ∧ PyData.depthAll (D.pys ds) ≤ n
  | [], _ => by simp [D.cmps, D.pys, PyData.canLayAll0, PyData.depthAll]
  | d :: r, h => by
    rw [List.all_cons, Bool.and_eq_true] at h
    obtain ⟨a1, a2, a3⟩ := ih d h.1
    obtain ⟨b1, b2, b3⟩ := cmpN_all ih r h.2
    simp only [D.cmps, D.pys, PyData.canLayAll0, PyData.depthAll, a1, a2, b1, b2, Bool.and_self, true_and]
    omega
theorem cmpN_ok : ∀ (n : Nat) (d : D), D.cmpN n d = true → d.cmp = true ∧ PyData.canLay0 d.py = true ∧ PyData.depth d.py ≤ n
  | 0, d, h => by
    cases d <;> first
      | (simp [D.cmpN] at h; done)
      | (simp only [D.cmp, D.py, PyData.canLay0, PyData.depth]; simp only [D.cmpN] at h; simp [h])
  | n + 1, d, h => by
    cases d with
    | tup ds =>
      obtain ⟨a1, a2, a3⟩ := cmpN_all (cmpN_ok n) ds h
      simp only [D.cmp, D.py, PyData.canLay0, PyData.depth, a1, a2, true_and]
      omega
    | lst ds =>
      obtain ⟨a1, a2, a3⟩ := cmpN_all (cmpN_ok n) ds h
      simp only [D.cmp, D.py, PyData.canLay0, PyData.depth, a1, a2, true_and]
      omega
    | ro ds =>
      obtain ⟨a1, a2, a3⟩ := cmpN_all (cmpN_ok n) ds h
      simp only [D.cmp, D.py, PyData.canLay0, PyData.depth, a1, a2, true_and]
      omega
    | non => simp [D.cmp, D.py, PyData.canLay0, PyData.depth]
    | bl b => simp [D.cmp, D.py, PyData.canLay0, PyData.depth]
    | int b => simp [D.cmp, D.py, PyData.canLay0, PyData.depth]
    | str x =>
      have h' : PyData.strOk x = true := h
      simp [D.cmp, D.py, PyData.canLay0, PyData.depth, h']
    | dct _ => simp [D.cmpN] at h
    | lkd _ _ => simp [D.cmpN] at h
    | st => simp [D.cmpN] at h
    | cm => simp [D.cmpN] at h
    | ptr _ => simp [D.cmpN] at h
    | ty _ => simp [D.cmpN] at h
theorem cmpN_shaped {d : D} (h : D.cmpN 60 d = true) : d.cmp = true ∧ SeqAt.shaped d.py = true := by
  obtain ⟨a, b, c⟩ := cmpN_ok 60 d h
  refine ⟨a, ?_⟩
  unfold SeqAt.shaped
  rw [b, decide_eq_true (by omega)]
  rfl
def D.eqv (d e : D) : Bool := PyData.eqv d.py e.py
theorem eqv_self {d : D} (h : D.cmpN 60 d = true) : D.eqv d d = true := SeqAt.eqv_refl _ (cmpN_ok 60 d h).2.1
theorem vo_eqN {x y : XV} {d e : D} (hx : x.dat = some d) (hy : y.dat = some e) (h1 : D.cmpN 60 d = true) (h2 : D.cmpN 60 e = true) (q : Q (.p (.bl (D.eqv d e)))) : VO K G B (rEqD K) env x y Q := vo_eqD hx hy ⟨(cmpN_shaped h1).1, (cmpN_shaped h2).1, (cmpN_shaped h1).2, (cmpN_shaped h2).2⟩ q
theorem vo_neN {x y : XV} {d e : D} (hx : x.dat = some d) (hy : y.dat = some e) (h1 : D.cmpN 60 d = true) (h2 : D.cmpN 60 e = true) (q : Q (.p (.bl (!D.eqv d e)))) : VO K G B (rNeD K) env x y Q := vo_neD hx hy ⟨(cmpN_shaped h1).1, (cmpN_shaped h2).1, (cmpN_shaped h1).2, (cmpN_shaped h2).2⟩ q
/-- alike on both sides -/
theorem vo_eqS {x y : XV} {d : D} (hx : x.dat = some d) (hy : y.dat = some d) (h1 : D.cmpN 60 d = true) (q : Q (.p (.bl true))) : VO K G B (rEqD K) env x y Q := vo_eqN hx hy h1 h1 (by rw [eqv_self h1]; exact q)
theorem vo_neS {x y : XV} {d : D} (hx : x.dat = some d) (hy : y.dat = some d) (h1 : D.cmpN 60 d = true) (q : Q (.p (.bl false))) : VO K G B (rNeD K) env x y Q := vo_neN hx hy h1 h1 (by rw [eqv_self h1]; exact q)
theorem cmpN_ints (n : Nat) (ns : List Int) : D.cmpN (n + 1) (.lst (ns.map D.int)) = true := by
  show (ns.map D.int).all (D.cmpN n) = true
  rw [List.all_map]
  exact List.all_eq_true.mpr fun _ _ => by cases n <;> rfl
/-- rows of whole numbers -/
theorem pys_map (f : Int → D) (g : Int → PyData) (h : ∀ i, (f i).py = g i) : ∀ ns : List Int, D.pys (ns.map f) = ns.map g
  | [] => rfl
  | n :: r => by
    simp only [List.map_cons, D.pys, h, pys_map f g h r]
theorem ints_py (ns : List Int) : D.py (.lst (ns.map D.int)) = .list (ns.map PyData.int) := by
  simp only [D.py]
  rw [pys_map D.int PyData.int fun i => by simp only [D.py]]
theorem ints_cmps : ∀ ns : List Int, D.cmps (ns.map D.int) = true
  | [] => by simp only [List.map_nil, D.cmps]
  | n :: r => by simp only [List.map_cons, D.cmps, D.cmp, ints_cmps r, Bool.and_self]
theorem ints_cmp (ns : List Int) : D.cmp (.lst (ns.map D.int)) = true := by simp only [D.cmp]; exact ints_cmps ns
theorem ints_canLay : ∀ ns : List Int, PyData.canLayAll0 (ns.map PyData.int) = true
  | [] => by simp only [List.map_nil, PyData.canLayAll0]
  | n :: r => by simp only [List.map_cons, PyData.canLayAll0, PyData.canLay0, ints_canLay r, Bool.and_self]
theorem ints_eqv : ∀ ns ms : List Int, PyData.eqvAll (ns.map PyData.int) (ms.map PyData.int) = decide (ns = ms)
  | [], [] => by simp [PyData.eqvAll]
  | [], m :: ms => by simp [PyData.eqvAll]
  | n :: ns, [] => by simp [PyData.eqvAll]
  | n :: ns, m :: ms => by
    simp only [List.map_cons, PyData.eqvAll, PyData.eqv, ints_eqv ns ms]
    by_cases h : n = m
    · subst h
      simp
    · simp [h]
theorem ints_eq (ns ms : List Int) : PyData.eqv (D.py (.lst (ns.map D.int))) (D.py (.lst (ms.map D.int))) = decide (ns = ms) := by
  rw [ints_py, ints_py]
  simp only [PyData.eqv]
  exact ints_eqv ns ms

/-! ### enumerate, zip, reversed, a text sign by sign -/
def XV.seqP : XV → Option (List D)
  | .p (.lst ds) => some ds
  | .p (.ro ds) => some ds
  | _ => none
theorem seqP_at {v : V} {x : XV} {ds : List D} (h : VAt K B env σ R H v x) (e : x.seqP = some ds) : ∃ a xs, v = .ref a ∧ SqL K R a xs ∧ AtL K R xs ds := by
  cases x with
  | p d =>
    cases d with
    | lst es =>
      cases e
      cases h with
      | @lst a xs _ h1 h2 => exact ⟨a, xs, rfl, .inl (.inl h1), h2⟩
    | ro es =>
      cases e
      cases h with
      | @ro a xs _ h1 h2 => exact ⟨a, xs, rfl, h1, h2⟩
    | _ => cases e
  | o d => cases e
  | m i d => cases e
theorem vi_l {tl : TE} (h : VE K G B tl env fun x => x.fz fun x => ∃ ds, x.seqP = some ds ∧ Ql ds) : VI K G B (iList K tl) env Ql := vi_list fun σ R H r Qh k => h σ R H r Qh fun v R' H' x r' s' hv q => k v R' H' x r' s' hv (by
  have f : ∀ x : XV, (∃ ds, x.seqP = some ds ∧ Ql ds) → ∃ ds, (x = .p (.lst ds) ∨ x = .p (.ro ds)) ∧ Ql ds := fun x ⟨ds, e, q⟩ => by
    cases x with
    | p d =>
      cases d with
      | lst es => cases e; exact ⟨_, .inl rfl, q⟩
      | ro es => cases e; exact ⟨_, .inr rfl, q⟩
      | _ => cases e
    | o d => cases e
    | m i d => cases e
  cases x with
  | p d => exact f _ q
  | o d => exact f _ q
  | m i d => exact f _ q)
def enumD (ds : List D) : List D := (List.range ds.length).map fun i => D.tup [.int (i : Nat), ds.getD i .non]
theorem enumD_get {ds : List D} {i : Nat} {d : D} (h : (enumD ds)[i]? = some d) : ∃ e, ds[i]? = some e ∧ d = .tup [.int (i : Nat), e] := by
  unfold enumD at h
  rw [List.getElem?_map] at h
  by_cases hi : i < ds.length
  · rw [List.getElem?_range hi] at h
    cases h
    exact ⟨ds[i], List.getElem?_eq_getElem hi, by show D.tup [.int (i : Nat), ds.getD i .non] = _; rw [List.getD_eq_getElem?_getD, List.getElem?_eq_getElem hi]; rfl⟩
  · rw [List.getElem?_eq_none_iff.mpr (by rw [List.length_range]; omega)] at h
    cases h
theorem enumD_len (ds : List D) : (enumD ds).length = ds.length := by
  unfold enumD
  rw [List.length_map, List.length_range]
theorem wk_enum {a : Addr} {xs : List V} {ds : List D} (hl : SqL K R a xs) (ha : AtL K R xs ds) : Wk K G B R (Ite K a) (enumD ds) where
  go := fun B e σ R' H' r s i d hi => by
    obtain ⟨d1, h1, rfl⟩ := enumD_get hi
    obtain ⟨v, hv, hd⟩ := ha.get h1
    have hL := r.sub.l (same_l s hl)
    refine ⟨⟨xs, v, hL, hv⟩, ?_⟩
    rintro w H2 ⟨T, x, rfl, hT, rfl, hx⟩
    have e := hx xs hL
    rw [hv] at e
    cases e
    have hn := r.sub.none hT
    exact ⟨_, r.newP hT (rfl), same_take hn, .tup (.inl (.inl upd_same)) (.cons (.int _) (.cons ((hd.same s).same (same_take hn)) .nil))⟩
  stop := fun B e σ R' H' r s => ⟨xs, r.sub.l (same_l s hl), by rw [enumD_len, ha.len]; exact Nat.le_refl _⟩
theorem vi_enum {ta : TA} (h : VA K G B ta env fun xs => ∃ x ds, xs = [x] ∧ x.seqP = some ds ∧ Ql (enumD ds)) : VI K G B (iEnum K ta) env Ql := fun σ R H r Qh k =>
  h σ R H r _ fun vs R1 H1 xs r1 s1 hv _ ⟨x, ds, e, hx, q⟩ => by
    subst e
    match vs, hv with
    | [v], hv =>
      obtain ⟨a, ys, rfl, h1, h2⟩ := seqP_at hv.1 hx
      exact ⟨a, ys, rfl, r1.sub.l h1, k _ R1 H1 _ r1 s1 (wk_enum h1 h2) q⟩
def zipD (ds es : List D) : List D := (ds.zip es).map fun p => .tup [p.1, p.2]
theorem zipD_get {ds es : List D} {i : Nat} {d : D} (h : (zipD ds es)[i]? = some d) : ∃ a b, ds[i]? = some a ∧ es[i]? = some b ∧ d = .tup [a, b] := by
  unfold zipD at h
  rw [List.getElem?_map] at h
  cases e : (ds.zip es)[i]? with
  | none =>
    rw [e] at h
    cases h
  | some p =>
    rw [e] at h
    cases h
    obtain ⟨h1, h2⟩ := List.getElem?_zip_eq_some.mp e
    exact ⟨_, _, h1, h2, rfl⟩
theorem zipD_len (ds es : List D) : (zipD ds es).length = min ds.length es.length := by
  unfold zipD
  rw [List.length_map, List.length_zip]
theorem wk_zip {a b : Addr} {xs ys : List V} {ds es : List D} (hl : SqL K R a xs) (ha : AtL K R xs ds) (hl' : SqL K R b ys) (ha' : AtL K R ys es) : Wk K G B R (Itz K a b) (zipD ds es) where
  go := fun B e σ R' H' r s i d hi => by
    obtain ⟨d1, d2, h1, h2, rfl⟩ := zipD_get hi
    obtain ⟨v, hv, hd⟩ := ha.get h1
    obtain ⟨w, hw, he⟩ := ha'.get h2
    have hL := r.sub.l (same_l s hl)
    have hL' := r.sub.l (same_l s hl')
    refine ⟨⟨xs, ys, v, w, hL, hL', hv, hw⟩, ?_⟩
    rintro u H2 ⟨T, x, y, rfl, hT, rfl, hx, hy⟩
    have e := hx xs hL
    rw [hv] at e
    cases e
    have e := hy ys hL'
    rw [hw] at e
    cases e
    have hn := r.sub.none hT
    exact ⟨_, r.newP hT (rfl), same_take hn, .tup (.inl (.inl upd_same)) (.cons ((hd.same s).same (same_take hn)) (.cons ((he.same s).same (same_take hn)) .nil))⟩
  stop := fun B e σ R' H' r s => ⟨xs, ys, r.sub.l (same_l s hl), r.sub.l (same_l s hl'), by rw [zipD_len, ha.len, ha'.len]; omega⟩
theorem vi_zip {ta : TA} (h : VA K G B ta env fun xs => ∃ x y ds es, xs = [x, y] ∧ x.seqP = some ds ∧ y.seqP = some es ∧ Ql (zipD ds es)) : VI K G B (iZip K ta) env Ql := fun σ R H r Qh k =>
  h σ R H r _ fun vs R1 H1 xs r1 s1 hv _ ⟨x, y, ds, es, e, hx, hy, q⟩ => by
    subst e
    match vs, hv with
    | [v, w], hv =>
      obtain ⟨a, ys, rfl, h1, h2⟩ := seqP_at hv.1 hx
      obtain ⟨b, zs, rfl, g1, g2⟩ := seqP_at hv.2.1 hy
      exact ⟨a, b, ys, zs, rfl, r1.sub.l h1, r1.sub.l g1, k _ R1 H1 _ r1 s1 (wk_zip h1 h2 g1 g2) q⟩
def signsD (z : Str) : List D := z.cps.toList.map fun c => .str ⟨#[c]⟩
theorem wk_str {z : Str} : Wk K G B R (Its z) (signsD z) where
  go := fun B e σ R' H' r s i d hi => by
    unfold signsD at hi
    rw [List.getElem?_map] at hi
    cases q : z.cps.toList[i]? with
    | none =>
      rw [q] at hi
      cases hi
    | some c =>
      rw [q] at hi
      cases hi
      have q' : z.cps[i]? = some c := by rw [← Array.getElem?_toList]; exact q
      refine ⟨(Array.getElem?_eq_some_iff.mp q').1, ?_⟩
      rintro w H2 ⟨rfl, c', hc, rfl⟩
      rw [q'] at hc
      cases hc
      exact ⟨R', r, Same.refl _, .str _⟩
  stop := fun B e σ R' H' r s => by
    show z.cps.size ≤ (signsD z).length
    unfold signsD
    rw [List.length_map, Array.length_toList]
    exact Nat.le_refl _
theorem vi_str {te : TE} (h : VE K G B te env fun x => ∃ z, x = .p (.str z) ∧ Ql (signsD z)) : VI K G B (iStr te) env Ql := fun σ R H r Qh k =>
  h σ R H r _ fun v R1 H1 x r1 s1 hv ⟨z, e, q⟩ => by
    subst e
    exact ⟨z, str_at hv, k _ R1 H1 _ r1 s1 wk_str q⟩
theorem wk_rev {a : Addr} {xs : List V} {ds : List D} (hl : SqL K R a xs) (ha : AtL K R xs ds) : Wk K G B R (Itv K a xs.length) ds.reverse where
  go := fun B e σ R' H' r s i d hi => by
    have hlt : i < ds.reverse.length := (List.getElem?_eq_some_iff.mp hi).1
    rw [List.length_reverse] at hlt
    rw [List.getElem?_reverse hlt] at hi
    obtain ⟨v, hv, hd⟩ := ha.get hi
    have hL := r.sub.l (same_l s hl)
    have hv' : xs[xs.length - 1 - i]? = some v := by rw [ha.len]; exact hv
    refine ⟨⟨by rw [ha.len]; exact hlt, xs, v, hL, hv'⟩, ?_⟩
    rintro w H2 ⟨rfl, hx⟩
    have e := hx xs hL
    rw [hv'] at e
    cases e
    exact ⟨R', r, Same.refl _, hd.same s⟩
  stop := fun B e σ R' H' r s => by
    show xs.length ≤ ds.reverse.length
    rw [List.length_reverse, ha.len]
    exact Nat.le_refl _
theorem vi_rev {ta : TA} (h : VA K G B ta env fun xs => ∃ x ds, xs = [x] ∧ x.seqP = some ds ∧ Ql ds.reverse) : VI K G B (iRev K ta) env Ql := fun σ R H r Qh k =>
  h σ R H r _ fun vs R1 H1 xs r1 s1 hv _ ⟨x, ds, e, hx, q⟩ => by
    subst e
    match vs, hv with
    | [v], hv =>
      obtain ⟨a, ys, rfl, h1, h2⟩ := seqP_at hv.1 hx
      exact ⟨a, ys, rfl, r1.sub.l h1, k _ R1 H1 _ r1 s1 (wk_rev h1 h2) q⟩

/-! ### dicts -/
def valD (kds : List (Key × D)) (k : Key) : Option D := (kds.find? fun kv => decide (kv.1 = k)).map (·.2)
def putD (kds : List (Key × D)) (k : Key) (v : D) : List (Key × D) :=
  if (kds.any fun kv => decide (kv.1 = k)) = true then kds.map (fun kv => if kv.1 = k then (kv.1, v) else kv) else kds ++ [(k, v)]
def keyD : Key → D
  | .inl i => .int i
  | .inr x => .str x
theorem key_at {v : V} {k : Key} (h : At K R v (keyD k)) : v = kV k := by
  cases k with
  | inl i =>
    have h' : At K R v (.int i) := h
    cases h'
    rfl
  | inr x =>
    have h' : At K R v (.str x) := h
    cases h'
    rfl
theorem AtD.val : ∀ {vs : List (Key × V)} {ds : List (Key × D)} {k : Key}, AtD K R vs ds → (∀ d, valD ds k = some d → ∃ v, valV vs k = some v ∧ At K R v d) ∧ (valD ds k = none → valV vs k = none)
  | _, _, _, .nil => ⟨fun d h => (by cases h), fun _ => rfl⟩
  | _, _, k, .cons (k := j) (v := v) (d := d) (vs := vs) (ds := ds) h t => by
    have ih := AtD.val (k := k) t
    by_cases e : j = k
    · have e1 : valD ((j, d) :: ds) k = some d := by simp [valD, List.find?_cons, e]
      have e2 : valV ((j, v) :: vs) k = some v := by simp [valV, List.find?_cons, e]
      rw [e1, e2]
      exact ⟨fun d' h' => (by cases h'; exact ⟨v, rfl, h⟩), fun h' => (by cases h')⟩
    · have e1 : valD ((j, d) :: ds) k = valD ds k := by simp [valD, List.find?_cons, e]
      have e2 : valV ((j, v) :: vs) k = valV vs k := by simp [valV, List.find?_cons, e]
      rw [e1, e2]
      exact ih
theorem AtD.any : ∀ {vs : List (Key × V)} {ds : List (Key × D)} {k : Key}, AtD K R vs ds → (vs.any fun kv => decide (kv.1 = k)) = (ds.any fun kv => decide (kv.1 = k))
  | _, _, _, .nil => rfl
  | _, _, k, .cons h t => by rw [List.any_cons, List.any_cons, AtD.any t]
theorem AtD.app : ∀ {vs ws : List (Key × V)} {ds es : List (Key × D)}, AtD K R vs ds → AtD K R ws es → AtD K R (vs ++ ws) (ds ++ es)
  | _, _, _, _, .nil, s => s
  | _, _, _, _, .cons h t, s => .cons h (AtD.app t s)
theorem AtD.mapput {k : Key} {v : V} {d : D} (h : At K R v d) : ∀ {vs : List (Key × V)} {ds : List (Key × D)}, AtD K R vs ds → AtD K R (vs.map fun kv => if kv.1 = k then (kv.1, v) else kv) (ds.map fun kv => if kv.1 = k then (kv.1, d) else kv)
  | _, _, .nil => .nil
  | _, _, .cons (k := j) h' t => by
    rw [List.map_cons, List.map_cons]
    by_cases e : j = k
    · simp only [if_pos e]
      exact .cons h (AtD.mapput h t)
    · simp only [if_neg e]
      exact .cons h' (AtD.mapput h t)
theorem AtD.put {k : Key} {v : V} {d : D} (h : At K R v d) {vs : List (Key × V)} {ds : List (Key × D)} (t : AtD K R vs ds) : AtD K R (putK vs k v) (putD ds k d) := by
  unfold putK putD
  rw [t.any]
  split
  · exact AtD.mapput h t
  · exact t.app (.cons h .nil)
theorem AtD.len : ∀ {vs : List (Key × V)} {ds : List (Key × D)}, AtD K R vs ds → vs.length = ds.length
  | _, _, .nil => rfl
  | _, _, .cons _ t => congrArg (· + 1) (AtD.len t)
/-- a dict is read: plain, or a slot's -/
def XV.dctD : XV → Option (List (Key × D))
  | .p (.dct ds) => some ds
  | .p (.lkd _ ds) => some ds
  | .m _ (.dct ds) => some ds
  | _ => none
theorem dctD_at (r : Rep K G B env σ R H) {v : V} {x : XV} {ds : List (Key × D)} (h : VAt K B env σ R H v x) (e : x.dctD = some ds) : ∃ a xs, v = .ref a ∧ Rd H a (.dK xs) ∧ AtD K R xs ds := by
  cases x with
  | p d =>
    cases d with
    | dct es =>
      cases e
      cases h with
      | @dct a xs _ h1 h2 => exact ⟨a, xs, rfl, .inl (r.sub.of h1 (rfl)), h2⟩
    | lkd b es =>
      cases e
      cases h with
      | @lkd a o xs _ h1 h2 => exact ⟨_, xs, rfl, .inr ⟨o, r.sub.of h1 (rfl)⟩, h2⟩
    | _ => cases e
  | o d => cases e
  | m i d =>
    cases d with
    | dct es =>
      cases e
      obtain ⟨h1, h2⟩ := h
      obtain ⟨a, y, g1, g2, g3, g4, g5⟩ := r.slots i _ h1
      rw [g1] at h2
      cases h2
      cases y with
      | dK xs => exact ⟨a, xs, rfl, .inl g4, g5⟩
      | _ => exact g5.elim
    | _ => cases e
theorem ve_dget {td ty : TE} (h : VE K G B td env fun x => x.fz fun x => VE K G B ty env fun y => y.fz fun y => ∃ ds k d, x.dctD = some ds ∧ y = .p (keyD k) ∧ valD ds k = some d ∧ Q (.p d)) : VE K G B (tDGet td ty) env Q := fun σ R H r Qh k =>
  h σ R H r _ fun v R1 H1 x r1 s1 hv q => by
    obtain ⟨R2, x', r2, s2, hv2, ho, q2⟩ := hv.fz r1 q
    refine q2 σ R2 H1 r2 _ fun w R3 H3 y r3 s3 hw q3 => ?_
    obtain ⟨R4, y', r4, s4, hw4, ho4, ds, k', d, hx, rfl, hd, q4⟩ := hw.fz r3 q3
    obtain ⟨a, xs, rfl, h1, h2⟩ := dctD_at r4 (hv2.go ho (s3.trans s4)) hx
    obtain ⟨z, hz, hzd⟩ := (h2.val (k := k')).1 d hd
    exact ⟨a, z, rfl, .inl ⟨xs, k', h1, key_at hw4, hz.symm⟩, k z R4 H3 (.p d) r4 (((s1.trans s2).trans s3).trans s4) hzd q4⟩
theorem ve_din {ty td : TE} (h : VE K G B ty env fun y => y.fz fun y => VE K G B td env fun x => x.fz fun x => ∃ ds k, x.dctD = some ds ∧ y = .p (keyD k) ∧ Q (.p (.bl (valD ds k).isSome))) : VE K G B (tDIn ty td) env Q := fun σ R H r Qh k =>
  h σ R H r _ fun v R1 H1 x r1 s1 hv q => by
    obtain ⟨R2, x', r2, s2, hv2, ho, q2⟩ := hv.fz r1 q
    refine q2 σ R2 H1 r2 _ fun w R3 H3 y r3 s3 hw q3 => ?_
    obtain ⟨R4, y', r4, s4, hw4, ho4, ds, k', hx, rfl, q4⟩ := hw.fz r3 q3
    obtain ⟨a, xs, rfl, h1, h2⟩ := dctD_at r4 hw4 hx
    have e : (valV xs k').isSome = (valD ds k').isSome := by
      cases q : valD ds k' with
      | none =>
        rw [(h2.val (k := k')).2 q]
        rfl
      | some d =>
        obtain ⟨z, hz, _⟩ := (h2.val (k := k')).1 d q
        rw [hz]
        rfl
    exact ⟨a, _, rfl, .inl ⟨xs, k', h1, key_at (R := R4) (VAt.go (H' := H3) hv2 ho (s3.trans s4)), rfl⟩, by rw [e]; exact k _ R4 H3 (.p (.bl _)) r4 (((s1.trans s2).trans s3).trans s4) (.bl _) q4⟩
theorem ve_dnotin {ty td : TE} (h : VE K G B ty env fun y => y.fz fun y => VE K G B td env fun x => x.fz fun x => ∃ ds k, x.dctD = some ds ∧ y = .p (keyD k) ∧ Q (.p (.bl (!(valD ds k).isSome)))) : VE K G B (tDNotIn ty td) env Q := fun σ R H r Qh k =>
  h σ R H r _ fun v R1 H1 x r1 s1 hv q => by
    obtain ⟨R2, x', r2, s2, hv2, ho, q2⟩ := hv.fz r1 q
    refine q2 σ R2 H1 r2 _ fun w R3 H3 y r3 s3 hw q3 => ?_
    obtain ⟨R4, y', r4, s4, hw4, ho4, ds, k', hx, rfl, q4⟩ := hw.fz r3 q3
    obtain ⟨a, xs, rfl, h1, h2⟩ := dctD_at r4 hw4 hx
    have e : (valV xs k').isSome = (valD ds k').isSome := by
      cases q : valD ds k' with
      | none =>
        rw [(h2.val (k := k')).2 q]
        rfl
      | some d =>
        obtain ⟨z, hz, _⟩ := (h2.val (k := k')).1 d q
        rw [hz]
        rfl
    exact ⟨a, _, rfl, .inl ⟨xs, k', h1, key_at (R := R4) (VAt.go (H' := H3) hv2 ho (s3.trans s4)), rfl⟩, by rw [e]; exact k _ R4 H3 (.p (.bl _)) r4 (((s1.trans s2).trans s3).trans s4) (.bl _) q4⟩
/-- d[k] = v, d the dict of a slot -/
theorem vs_dput {i : Nat} {ty tv : TE} {ds : List (Key × D)} (hd : env[i]? = some (.mu (.dct ds))) (h : VE K G B tv env fun x => x.fz fun x => ∃ d, x = .p d ∧ VE K G B ty env fun y => ∃ k, y = .p (keyD k) ∧ ds.length < 100000 ∧ nx (env.set i (.mu (.dct (putD ds k d))))) :
    VS K G B (sDPut (tVar i) ty tv) env nx rt bk ct := fun σ R H r Z kn _ _ _ =>
  h σ R H r _ fun v R1 H1 x r1 s1 hv q => by
    obtain ⟨R2, x', r2, s2, hv2, ho, d, rfl, q2⟩ := hv.fz r1 q
    obtain ⟨a, y, h1, _⟩ := r2.slots i _ hd
    refine ⟨.ref a, h1, q2 σ R2 H1 r2 _ fun w R3 H3 y' r3 s3 hw ⟨k', e, hl, q3⟩ => ?_⟩
    subst e
    obtain ⟨b, y, g1, g2, g3, g4, g5⟩ := r3.slots i _ hd
    rw [h1] at g1
    cases g1
    obtain ⟨ys, rfl⟩ : ∃ xs, y = .dK xs := by cases y <;> first | exact ⟨_, rfl⟩ | exact g5.elim
    have g6 : AtD K R3 ys ds := g5
    refine ⟨a, _, rfl, .inl ⟨ys, k', g4, key_at hw, by rw [g6.len]; exact Nat.lt_of_lt_of_le hl (by decide), rfl⟩, ?_⟩
    exact kn _ σ R3 _ (r3.mut hd h1 (y := .dK (putK ys k' v)) (d' := .dct (putD ds k' d)) (g6.put (At.same s3 hv2))) ((s1.trans s2).trans s3) q3
/-- d[k] op= v -/
theorem vs_daug {i : Nat} {ty tv : TE} {rd : V → V → Hp → VK → Prop} {ds : List (Key × D)} (hd : env[i]? = some (.mu (.dct ds))) (h : VE K G B ty env fun y => ∃ k d, y = .p (keyD k) ∧ valD ds k = some d ∧ ds.length < 100000 ∧
      VE K G B tv env fun x => x.fz fun x => VO K G B rd env (.p d) x fun z => ∃ e, z = .p e ∧ nx (env.set i (.mu (.dct (putD ds k e))))) :
    VS K G B (sDAug (tVar i) ty tv rd) env nx rt bk ct := fun σ R H r Z kn _ _ _ => by
  obtain ⟨a, y, h1, _⟩ := r.slots i _ hd
  refine ⟨.ref a, h1, h σ R H r _ fun w R1 H1 x r1 s1 hw ⟨k', d, e, hk, hl, q⟩ => ?_⟩
  subst e
  obtain ⟨b, y, g1, g2, g3, g4, g5⟩ := r1.slots i _ hd
  rw [h1] at g1
  cases g1
  obtain ⟨ys, rfl⟩ : ∃ xs, y = .dK xs := by cases y <;> first | exact ⟨_, rfl⟩ | exact g5.elim
  have g6 : AtD K R1 ys ds := g5
  obtain ⟨z, hz, hzd⟩ := (g6.val (k := k')).1 d hk
  refine ⟨a, z, rfl, .inl ⟨ys, k', .inl g4, key_at hw, hz.symm⟩, q σ R1 H1 r1 _ fun v R2 H2 x r2 s2 hv q2 => ?_⟩
  obtain ⟨R3, x', r3, s3, hv3, ho, q3⟩ := hv.fz r2 q2
  refine q3 σ R3 H2 r3 z v (hzd.same (s2.trans s3)) hv3 _ fun u R4 H4 x4 r4 s4 hu ⟨e, he, q4⟩ => ?_
  subst he
  obtain ⟨b, y, f1, f2, f3, f4, f5⟩ := r4.slots i _ hd
  rw [h1] at f1
  cases f1
  obtain ⟨zs, rfl⟩ : ∃ xs, y = .dK xs := by cases y <;> first | exact ⟨_, rfl⟩ | exact f5.elim
  have f6 : AtD K R4 zs ds := f5
  refine ⟨_, .inl ⟨zs, k', f4, key_at hw, by rw [f6.len]; exact Nat.lt_of_lt_of_le hl (by decide), rfl⟩, ?_⟩
  exact kn _ σ R4 _ (r4.mut hd h1 (y := .dK (putK zs k' u)) (d' := .dct (putD ds k' e)) (f6.put hu)) (((s1.trans s2).trans s3).trans s4) q4

/-! ### a list that is drawn from -/
theorem vs_toSt (i : Nat) {t : TS} {ns : List Int} (hd : env[i]? = some (.mu (.lst (ns.map D.int)))) (g : G.good ns) (h : VS K G B t (env.set i (.p .st)) nx rt bk ct) : VS K G B t env nx rt bk ct := fun σ R H r Z kn kr kb kc => by
  obtain ⟨a, y, h1, h2, h3, h4, h5⟩ := r.slots i _ hd
  obtain ⟨xs, rfl⟩ : ∃ xs, y = .lst xs := by cases y <;> first | exact ⟨_, rfl⟩ | exact h5.elim
  have ex : xs = ns.map V.int := AtL.ints_inv h5
  subst ex
  obtain ⟨r3, st⟩ := r.putS (o := .ext fun _ => False) (d' := .st) hd h1 ⟨ns, h4, g⟩ (.st upd_same)
  exact h σ _ H r3 Z (fun e σ' R2 H2 r2 s2 => kn e σ' R2 H2 r2 (st.trans s2)) (fun v e σ' R2 H2 x r2 s2 => kr v e σ' R2 H2 x r2 (st.trans s2)) (fun e σ' R2 H2 r2 s2 => kb e σ' R2 H2 r2 (st.trans s2)) (fun e σ' R2 H2 r2 s2 => kc e σ' R2 H2 r2 (st.trans s2))
/-- the promise of a def that draws from the list handed in first -/
theorem st_at {v : V} (h : At K R v .st) : ∃ a φ, v = .ref a ∧ R a = some (.ext φ) := by
  cases h with
  | @st a φ h => exact ⟨a, φ, rfl, h⟩
/-- the list that is drawn from has changed -/
theorem step_st (s : Sub K G R H) {a : Addr} {φ : Heap → Prop} (ha : R a = some (.ext φ)) {ns : List Int} (g : G.good ns) : Step K G R H R (upd H a (.lst (ns.map V.int))) where
  same := Same.refl R
  sub := fun b x e => by
    by_cases hb : b = a
    · subst hb
      rw [ha] at e
      cases e
      exact ⟨ns, upd_same, g⟩
    · obtain ⟨ms, q, _⟩ := s a _ ha
      exact subAt_go (s b x e) (upd_ne hb) (hard_own q rfl)
  kept := fun b y e n => by
    rw [upd_ne]
    · exact e
    · rintro rfl
      cases n _ ha
  out := fun _ _ _ _ n => n
end
/-- += on an item of a list -/
theorem get_list {X : Cx} : PGet X (rIxL X.K) := by
  intro pins s σ H x y v u Q I rx ry h
  obtain ⟨p, xs, i, z, rfl, rfl, hq, he, q⟩ := h
  cases rx
  obtain ⟨t, rfl⟩ := ry
  obtain ⟨its, r, pl, hz⟩ := I.list hq
  obtain ⟨j, h1, h2, h3, h4, h5⟩ := atI_get he
  obtain ⟨w, ew, rw'⟩ := r.get h2
  have hl := r.length
  have hn := line63
  have fin : EP X pins σ Q w s := ⟨z, H, I, rw', q⟩
  by_cases h0 : 0 ≤ i
  · have hj : i.toNat = j := by
      rw [seqIndex_of h0 h5] at h1
      exact Option.some.inj h1
    exact wpAny_getItem_list pl.isList h0 (by omega) (by rw [hj]; simpa using ew) fin
  · have hj : (i + (its.toArray.size : Int)).toNat = j := by
      rw [seqIndex_neg (by omega) h4] at h1
      rw [List.size_toArray, ← hl]
      exact Option.some.inj h1
    exact wpAny_getItem_list_neg pl.isList (by omega) (by rw [List.size_toArray] <;> omega) (by omega) (by rw [hj]; simpa using ew) fin
/-! ### a law's text -/
/-- a def that lets nothing out, as it stands behind the top -/
structure Cal (P : Program) (w : World) (K : PySem.W.Frag) (mg : Str → Option Value) (base : Heap) (k : Nat) (x : Str) (sp : Sp) (dvs : List V) : Prop where
  ex : ∃ (f : Addr) (fd : FuncData) (ps : List Str) (ds : List Value), FnOk P w K mg base CX0 k f fd ps sp ∧ mg x = some (.ref f) ∧ PySem.W.keepIn K (.ref f) = true ∧ Binds K fd ps ds ∧ Vals dvs ds
theorem pe_c {X : Cx} {k j : Nat} {x : Str} {p pos : Pos} {e : Expr} {es : List Expr} {sp : Sp} {dvs : List V} {t : TA} (c : Cal X.prog X.w X.K X.mg X.base k x sp dvs) (hr : Room j X.A) (hk : k ≤ j) (hg : Gl X x) (ha : PA X (e :: es) t)
    (hdb : (x == ("__debug__" : Str)) = false := by decide) (he : starEach (e :: es) X.env = (false, eval e X.env) :: starEach es X.env := by rfl) (hpl : (backTo pos (starEach es X.env)).any (·.1) = false := by rfl) :
    PE X (.Call (.Name x p) (e :: es) [] pos) (tCall sp dvs E0 t) := by
  obtain ⟨f, fd, ps, ds, F, hm, kp, b, d⟩ := c.ex
  exact pe_call F (hr.mono hk) hg hm kp b d pass0 ha hdb he hpl
structure Dfn (K : PySem.W.Frag) (mg : Str → Option Value) (x : Str) (st : Stmt) (ps : List Str) : Prop where
  ex : ∃ f fd, Fun K x x st f fd ∧ mg x = some (.ref f) ∧ Binds K fd ps []
/-- a script is handed in, True comes back -/
def spLaw (K : PySem.W.Frag) (G : Gs) : Sp := fun vs H Q _ => ∃ (a : Addr) (ns : List Int), vs = [.ref a] ∧ SqL K H a (ns.map V.int) ∧ ns.length ≤ 63 ∧ (∀ P, G.tab = some P → H P = some (.tbl #[])) ∧ ∀ H', Q (.bl true) H'
theorem law_of {G : Gs} {P : Program} {w : World} {K : PySem.W.Frag} {mg : Str → Option Value} {base : Heap} {CX : CXT} {k : Nat} {f : Addr} {fd : FuncData} {ps : List Str}
    (F : FnOk P w K mg base CX k f fd ps (SpA K G false (fun ns : List Int => [.ro (ns.map D.int)]) (fun ns => ns.length ≤ 63) (fun _ d => d = .bl true) noRs)) : FnOk P w K mg base CX k f fd ps (spLaw K G) :=
  F.imp fun vs H Q E ⟨a, ns, e, hS, hl, hT, q⟩ => by
    subst e
    -- the table alone
    have key0 : ∃ R0 : Hp, Sub K G R0 H ∧ TabIn G R0 ∧ ∀ b, (∃ xs, H b = some (.lst xs)) ∨ (∃ o xs, H b = some (.frz o (.lst xs))) → R0 b = none := by
      cases ht : G.tab with
      | none =>
        refine ⟨fun _ => none, fun b x e => (by cases e), fun P e => ?_, fun _ _ => rfl⟩
        rw [ht] at e
        cases e
      | some P =>
        refine ⟨fun b => if b = P then some (.tbl #[]) else none, fun b x e => ?_, fun P' e => ?_, fun b hb => ?_⟩
        · by_cases hb : b = P
          · subst hb
            have e' : (if b = b then some (HO.tbl #[]) else none) = some x := e
            rw [if_pos rfl] at e'
            cases e'
            exact LamX.TabS.nil (hT b ht)
          · have e' : (if b = P then some (HO.tbl #[]) else none) = some x := e
            rw [if_neg hb] at e'
            cases e'
        · rw [ht] at e
          cases e
          exact ⟨#[], if_pos rfl⟩
        · refine if_neg fun z => ?_
          rw [z, hT P ht] at hb
          rcases hb with ⟨xs, w⟩ | ⟨o, xs, w⟩ <;> cases w
    obtain ⟨R0, s0, t0, n0⟩ := key0
    have key : ∃ R : Hp, Sub K G R H ∧ TabIn G R ∧ SqL K R a (ns.map V.int) := by
      rcases hS with (h | ⟨o, h⟩) | h
      · have hn := n0 a (.inl ⟨_, h⟩)
        exact ⟨upd R0 a (.lst (ns.map V.int)), sub_put s0 (subAt_of h rfl), t0.go (same_take hn), .inl (.inl upd_same)⟩
      · have hn := n0 a (.inr ⟨_, _, h⟩)
        exact ⟨upd R0 a (.frz o (.lst (ns.map V.int))), sub_put s0 (subAt_of h rfl), t0.go (same_take hn), .inl (.inr ⟨o, upd_same⟩)⟩
      · exact ⟨R0, s0, t0, .inr h⟩
    obtain ⟨R, s, t, hs⟩ := key
    refine ⟨R, ns, ⟨s, t⟩, .cons (.ro hs (AtL.ints ns)) .nil, hl, fun v R' H' d _ ha _ hd => ?_, fun _ _ _ _ h => h.elim⟩
    subst hd
    cases ha
    exact q H'
end VL

namespace VL
open PySem PySem.Spec PyProof.Rows L2
/-! ### zip of three lists -/
def Itz3 (K : PySem.W.Frag) (a b c : Addr) : It :=
  ⟨fun i H => ∃ (xs ys zs : List V) (x y z : V), SqL K H a xs ∧ SqL K H b ys ∧ SqL K H c zs ∧ xs[i]? = some x ∧ ys[i]? = some y ∧ zs[i]? = some z,
    fun i H v H' => ∃ T x y z, v = .ref T ∧ H T = none ∧ H' = upd H T (.tup [x, y, z]) ∧ (∀ xs, SqL K H a xs → xs[i]? = some x) ∧ (∀ ys, SqL K H b ys → ys[i]? = some y) ∧ ∀ zs, SqL K H c zs → zs[i]? = some z,
    fun i H => ∃ xs ys zs : List V, SqL K H a xs ∧ SqL K H b ys ∧ SqL K H c zs ∧ i = min (min xs.length ys.length) zs.length⟩
theorem sub5 {z TI TO i1 i2 i3 d : Addr} (h : d ∈ [z, TO, i1, i2, i3]) : d ∈ [z, TI, TO, i1, i2, i3] := by
  simp only [List.mem_cons, List.not_mem_nil, or_false] at h ⊢
  rcases h with h | h | h | h | h <;> simp [h]
theorem turn_zip3 {P : Program} {w : World} {K : PySem.W.Frag} {elts : List Expr} {kk : Nat} {tpos : Pos} {a b c z TI TO i1 i2 i3 : Addr} (S : ZipSep3 z TI TO i1 i2 i3 [i1, a] [i2, b] [i3, c]) (na : a ≠ i1) (nb : b ≠ i2) (nc : c ≠ i3) :
    Turn P w K (.Tuple elts kk tpos) (Itz3 K a b c) [z, TI, TO, i1, i2, i3] z (fun i h => IsZip h z TI TO .none ∧ IsTupOf3 h TI (.ref i1) (.ref i2) (.ref i3) ∧ (∃ x y u, IsTupOf3 h TO x y u) ∧ h.IsListIter i1 a i ∧ h.IsListIter i2 b i ∧ h.IsListIter i3 c i) where
  mem := by simp
  obj := fun i h st d hd => by
    obtain ⟨hz, hTI, ⟨x, y, u, hTO⟩, ⟨o1, e1, _, d1⟩, ⟨o2, e2, _, d2⟩, ⟨o3, e3, _, d3⟩⟩ := st
    have e' : d = z ∨ d = TI ∨ d = TO ∨ d = i1 ∨ d = i2 ∨ d = i3 := by simpa using hd
    rcases e' with q | q | q | q | q | q
    · rw [q]; exact ⟨_, hz, fun v q => nomatch q⟩
    · rw [q]; exact ⟨_, hTI, fun v q => nomatch q⟩
    · rw [q]; exact ⟨_, hTO, fun v q => nomatch q⟩
    · rw [q]; exact ⟨o1, e1, fun v q => by rw [d1] at q; cases q⟩
    · rw [q]; exact ⟨o2, e2, fun v q => by rw [d2] at q; cases q⟩
    · rw [q]; exact ⟨o3, e3, fun v q => by rw [d3] at q; cases q⟩
  keep := fun i h h' st k => by
    obtain ⟨hz, hTI, ⟨x, y, u, hTO⟩, h1, h2, h3⟩ := st
    exact ⟨k z (by simp) _ hz, k TI (by simp) _ hTI, ⟨x, y, u, k TO (by simp) _ hTO⟩, h1.at fun o q => k i1 (by simp) o q, h2.at fun o q => k i2 (by simp) o q, h3.at fun o q => k i3 (by simp) o q⟩
  item := by
    intro X hP hw hK hc i pins s σ H E I hf st hg
    subst hP hw hK
    obtain ⟨hz, hTI, hTO, h1, h2, h3⟩ := st
    obtain ⟨xs, ys, zs, x, y, u, hqx, hqy, hqz, hx, hy, hu⟩ := hg
    obtain ⟨its, rv, p, _⟩ := I.list hqx
    obtain ⟨its2, rv2, p2, _⟩ := I.list hqy
    obtain ⟨its3, rv3, p3, _⟩ := I.list hqz
    have hh := I.ok.hd hc
    have G := GoesN.zip3 (prog := X.prog) (w := X.w) (A := X.A) (elts := elts) (x1 := kk) (pos := tpos) S (Draws.list (A := X.A.in1) hh i1 a na its.toArray) (Draws.list (A := X.A.in1) hh i2 b nb its2.toArray) (Draws.list (A := X.A.in1) hh i3 c nc its3.toArray)
    have l1 := rv.length
    have l2 := rv2.length
    have l3 := rv3.length
    have b1 := (List.getElem?_eq_some_iff.mp hx).1
    have b2 := (List.getElem?_eq_some_iff.mp hy).1
    have b3 := (List.getElem?_eq_some_iff.mp hu).1
    refine G.goes i s (fun v s2 => ∃ x H', Inv X pins σ H' s2 ∧ RelV x v ∧ (Itz3 X.K a b c).yld i H x H' ∧ (IsZip s2.heap z TI TO .none ∧ IsTupOf3 s2.heap TI (.ref i1) (.ref i2) (.ref i3) ∧ (∃ x y u, IsTupOf3 s2.heap TO x y u) ∧ s2.heap.IsListIter i1 a (i + 1) ∧ s2.heap.IsListIter i2 b (i + 1) ∧ s2.heap.IsListIter i3 c (i + 1)) ∧ ∀ b ∈ [z, TI, TO, i1, i2, i3], H' b = none) E ?_ ⟨hz, hTI, hTO, ⟨h1, p.isList⟩, ⟨h2, p2.isList⟩, ⟨h3, p3.isList⟩⟩ ?_
    · simp only [List.size_toArray]
      omega
    · rintro v h' tk ⟨T, x', y', u', rfl, hT, hx', hy', hu', hTt⟩ ⟨k1, k2, k3, ⟨k4, _⟩, ⟨k5, _⟩, ⟨k6, _⟩⟩ hk htk
      obtain ⟨w1, hw1, rw1⟩ := rv.get hx
      obtain ⟨w2, hw2, rw2⟩ := rv2.get hy
      obtain ⟨w3, hw3, rw3⟩ := rv3.get hu
      have e1 : x' = w1 := by
        have : its[i]? = some x' := by simpa using hx'
        rw [hw1] at this
        cases this
        rfl
      have e2 : y' = w2 := by
        have : its2[i]? = some y' := by simpa using hy'
        rw [hw2] at this
        cases this
        rfl
      have e3 : u' = w3 := by
        have : its3[i]? = some u' := by simpa using hu'
        rw [hw3] at this
        cases this
        rfl
      subst e1 e2 e3
      obtain ⟨o, ho, hoc, n, hod⟩ : ∃ o, h'.get? T = some o ∧ o.cls = .type "tuple" ∧ ∃ n, o.data = .seq #[x', y', u'] n := by
        obtain ⟨o, ho, hc', hd'⟩ := hTt
        exact ⟨o, ho, hc', by simpa using hd'⟩
      have new : ObjOk X.prog X.w (upd H T (.tup [x, y, u])) h' T (.tup [x, y, u]) :=
        ⟨by show 3 ≤ sizeLine; decide, [x', y', u'], .cons rw1 (.cons rw2 (.cons rw3 .nil)), ⟨o, ho, hoc, n, hod⟩⟩
      have I1 : Inv X pins σ (upd H T (.tup [x, y, u])) { s with heap := h', toks := tk } :=
        I.turnedNew (t' := tk) (ch := [z, TI, TO, i1, i2, i3]) (fun c o hb q => hk c o (fun q' => hb (sub5 q')) q) hf hT new
      refine ⟨.ref T, _, I1, rfl, ⟨T, x, y, u, rfl, I.hok.fresh hT, rfl, fun l hl => by rw [I.list_inj hl hqx]; exact hx, fun l hl => by rw [I.list_inj hl hqy]; exact hy, fun l hl => by rw [I.list_inj hl hqz]; exact hu⟩, ⟨k1, k2, k3, k4, k5, k6⟩, fun d hd => ?_⟩
      have hlt : d < s.heap.objs.size := by
        have e' : d = z ∨ d = TI ∨ d = TO ∨ d = i1 ∨ d = i2 ∨ d = i3 := by simpa using hd
        obtain ⟨_, _, _, hTO⟩ := hTO
        rcases e' with q | q | q | q | q | q
        · rw [q]; exact Heap.lt_size hz
        · rw [q]; exact Heap.lt_size hTI
        · rw [q]; exact Heap.lt_size hTO
        · rw [q]; obtain ⟨_, e1, _⟩ := h1; exact Heap.lt_size e1
        · rw [q]; obtain ⟨_, e2, _⟩ := h2; exact Heap.lt_size e2
        · rw [q]; obtain ⟨_, e3, _⟩ := h3; exact Heap.lt_size e3
      rw [upd_ne (Nat.ne_of_lt (Nat.lt_of_lt_of_le hlt hT))]
      exact (hf d hd).1
  done := by
    intro X hP hw hK hc i pins s σ H E I hf st hg
    subst hP hw hK
    obtain ⟨hz, hTI, hTO, h1, h2, h3⟩ := st
    obtain ⟨xs, ys, zs, hqx, hqy, hqz, hend⟩ := hg
    obtain ⟨its, rv, p, _⟩ := I.list hqx
    obtain ⟨its2, rv2, p2, _⟩ := I.list hqy
    obtain ⟨its3, rv3, p3, _⟩ := I.list hqz
    have hh := I.ok.hd hc
    have G := GoesN.zip3 (prog := X.prog) (w := X.w) (A := X.A) (elts := elts) (x1 := kk) (pos := tpos) S (Draws.list (A := X.A.in1) hh i1 a na its.toArray) (Draws.list (A := X.A.in1) hh i2 b nb its2.toArray) (Draws.list (A := X.A.in1) hh i3 c nc its3.toArray)
    have e : min (min its.toArray.size its2.toArray.size) its3.toArray.size = i := by
      rw [List.size_toArray, List.size_toArray, List.size_toArray, ← rv.length, ← rv2.length, ← rv3.length, hend]
    rw [e] at G
    refine G.stops s (fun s1 => Inv X pins σ H s1) E ⟨hz, hTI, hTO, ⟨h1, p.isList⟩, ⟨h2, p2.isList⟩, ⟨h3, p3.isList⟩⟩ fun h' tk hk htk => ?_
    exact I.turnedL (t' := tk) (ch := [z, TI, TO, i1, i2, i3]) (fun c o hb q => hk c o (fun q' => hb (sub5 q')) q) hf
  self := fun A i s Q E st h => wpAny_pyIter_zip st.1 h
def iZip3 (K : PySem.W.Frag) (ta : TA) : TI := fun σ H R => ta σ H fun vs H1 => ∃ a b c xs ys zs, vs = [.ref a, .ref b, .ref c] ∧ SqL K H1 a xs ∧ SqL K H1 b ys ∧ SqL K H1 c zs ∧ R (Itz3 K a b c) H1
theorem pi_zip3 {X : Cx} {e e2 e3 : Expr} {ta : TA} {p pos tpos : Pos} {elts : List Expr} {kk : Nat} (hg : Gl X "zip") (hm : X.mg "zip" = none) (ha : PA X [e, e2, e3] ta)
    (hs : starEach [e, e2, e3] X.env = (false, eval e X.env) :: starEach [e2, e3] X.env := by rfl) (hpl : (backTo pos (starEach [e2, e3] X.env)).any (·.1) = false := by rfl) :
    PI X (.Tuple elts kk tpos) (.Call (.Name "zip" p) [e, e2, e3] [] pos) (iZip3 X.K ta) := by
  refine ⟨fun pins s σ H R I h => ?_⟩
  refine Call_ (ld_blt I hg hm PyProof.Rows.boot_zip (PyProof.Rows.callWith_type1 (thn (ha.run pos pins s σ H _ I h) fun us s1 ⟨vs, H1, I1, r1, q1⟩ => ?_) hs hpl))
  obtain ⟨a, b, c, xs, ys, zs, ex, hqx, hqy, hqz, q⟩ := q1
  subst ex
  cases r1 with
  | cons r rr =>
  cases rr with
  | cons r' rr =>
  cases rr with
  | cons r'' rr =>
  cases rr
  cases r
  cases r'
  cases r''
  obtain ⟨its, rv, p1, _⟩ := I1.list hqx
  obtain ⟨its2, rv2, p2, _⟩ := I1.list hqy
  obtain ⟨its3, rv3, p3, _⟩ := I1.list hqz
  have la : a < s1.heap.objs.size := p1.lt
  have lb : b < s1.heap.objs.size := p2.lt
  have lc : c < s1.heap.objs.size := p3.lt
  refine zip_begins3 (begins_list a its.toArray) (begins_list b its2.toArray) (begins_list c its3.toArray) p1.isList p2.isList p3.isList fun h' hz hTI hTO g1 g2 g3 hsz hk => wpAny_pyIter_zip hz ?_
  have I2 : Inv X pins σ H1 { s1 with heap := h' } := I1.kept (t' := s1.toks) hk
  have one : ∀ {x : Addr}, x < s1.heap.objs.size → ∀ b ∈ [x], b < s1.heap.objs.size := fun hx b hb => by
    rw [List.mem_singleton.mp hb]
    exact hx
  refine ⟨s1.heap.objs.size + 5, [s1.heap.objs.size + 5, s1.heap.objs.size + 3, s1.heap.objs.size + 4, s1.heap.objs.size, s1.heap.objs.size + 1, s1.heap.objs.size + 2], _, _, H1, rfl, I2, turn_zip3 (zip_sep3 (one la) (one lb) (one lc)) (Nat.ne_of_lt la) (Nat.ne_of_lt (Nat.lt_succ_of_lt lb)) (Nat.ne_of_lt (Nat.lt_succ_of_lt (Nat.lt_succ_of_lt lc))), ⟨hz, hTI, ⟨_, _, _, hTO⟩, ⟨_, g1, rfl, rfl⟩, ⟨_, g2, rfl, rfl⟩, ⟨_, g3, rfl, rfl⟩⟩, fun d hd => ?_, q⟩
  have hle : s1.heap.objs.size ≤ d := by
    have e' : d = s1.heap.objs.size + 5 ∨ d = s1.heap.objs.size + 3 ∨ d = s1.heap.objs.size + 4 ∨ d = s1.heap.objs.size ∨ d = s1.heap.objs.size + 1 ∨ d = s1.heap.objs.size + 2 := by simpa using hd
    rcases e' with z | z | z | z | z | z
    · rw [z]; exact Nat.le_add_right _ _
    · rw [z]; exact Nat.le_add_right _ _
    · rw [z]; exact Nat.le_add_right _ _
    · rw [z]; exact Nat.le_refl _
    · rw [z]; exact Nat.le_add_right _ _
    · rw [z]; exact Nat.le_add_right _ _
  exact I1.fpOk hle (I1.hok.fresh hle)
section
variable {K : PySem.W.Frag} {G : Gs} {B : Bs} {env : Vn} {R : Hp} {Ql : List D → Prop}
def zipD3 (ds es fs : List D) : List D := (List.range (min (min ds.length es.length) fs.length)).map fun i => .tup [ds.getD i .non, es.getD i .non, fs.getD i .non]
theorem getD_of {ds : List D} {i : Nat} (h : i < ds.length) : ds[i]? = some (ds.getD i .non) := by
  rw [List.getD_eq_getElem?_getD, List.getElem?_eq_getElem h]
  rfl
theorem zipD3_get {ds es fs : List D} {i : Nat} {d : D} (h : (zipD3 ds es fs)[i]? = some d) : ∃ a b c, ds[i]? = some a ∧ es[i]? = some b ∧ fs[i]? = some c ∧ d = .tup [a, b, c] := by
  unfold zipD3 at h
  rw [List.getElem?_map] at h
  by_cases hi : i < min (min ds.length es.length) fs.length
  · rw [List.getElem?_range hi] at h
    cases h
    exact ⟨_, _, _, getD_of (by omega), getD_of (by omega), getD_of (by omega), rfl⟩
  · rw [List.getElem?_eq_none_iff.mpr (by rw [List.length_range]; omega)] at h
    cases h
theorem zipD3_len (ds es fs : List D) : (zipD3 ds es fs).length = min (min ds.length es.length) fs.length := by
  unfold zipD3
  rw [List.length_map, List.length_range]
theorem wk_zip3 {a b c : Addr} {xs ys zs : List V} {ds es fs : List D} (hl : SqL K R a xs) (ha : AtL K R xs ds) (hl' : SqL K R b ys) (ha' : AtL K R ys es) (hl2 : SqL K R c zs) (ha2 : AtL K R zs fs) : Wk K G B R (Itz3 K a b c) (zipD3 ds es fs) where
  go := fun B e σ R' H' r s i d hi => by
    obtain ⟨d1, d2, d3, h1, h2, h3, rfl⟩ := zipD3_get hi
    obtain ⟨v, hv, hd⟩ := ha.get h1
    obtain ⟨w, hw, he⟩ := ha'.get h2
    obtain ⟨u, hu, hf⟩ := ha2.get h3
    have hL := r.sub.l (same_l s hl)
    have hL' := r.sub.l (same_l s hl')
    have hL2 := r.sub.l (same_l s hl2)
    refine ⟨⟨xs, ys, zs, v, w, u, hL, hL', hL2, hv, hw, hu⟩, ?_⟩
    rintro u' H2 ⟨T, x, y, z, rfl, hT, rfl, hx, hy, hz⟩
    have e := hx xs hL
    rw [hv] at e
    cases e
    have e := hy ys hL'
    rw [hw] at e
    cases e
    have e := hz zs hL2
    rw [hu] at e
    cases e
    have hn := r.sub.none hT
    exact ⟨_, r.newP hT (rfl), same_take hn, .tup (.inl (.inl upd_same)) (.cons ((hd.same s).same (same_take hn)) (.cons ((he.same s).same (same_take hn)) (.cons ((hf.same s).same (same_take hn)) .nil)))⟩
  stop := fun B e σ R' H' r s => ⟨xs, ys, zs, r.sub.l (same_l s hl), r.sub.l (same_l s hl'), r.sub.l (same_l s hl2), by rw [zipD3_len, ha.len, ha'.len, ha2.len]⟩
theorem vi_zip3 {ta : TA} (h : VA K G B ta env fun xs => ∃ x y z ds es fs, xs = [x, y, z] ∧ x.seqP = some ds ∧ y.seqP = some es ∧ z.seqP = some fs ∧ Ql (zipD3 ds es fs)) : VI K G B (iZip3 K ta) env Ql := fun σ R H r Qh k =>
  h σ R H r _ fun vs R1 H1 xs r1 s1 hv _ ⟨x, y, z, ds, es, fs, e, hx, hy, hz, q⟩ => by
    subst e
    match vs, hv with
    | [v, w, u], hv =>
      obtain ⟨a, ys, rfl, h1, h2⟩ := seqP_at hv.1 hx
      obtain ⟨b, zs, rfl, g1, g2⟩ := seqP_at hv.2.1 hy
      obtain ⟨c, us, rfl, f1, f2⟩ := seqP_at hv.2.2.1 hz
      exact ⟨a, b, c, ys, zs, us, rfl, r1.sub.l h1, r1.sub.l g1, r1.sub.l f1, k _ R1 H1 _ r1 s1 (wk_zip3 h1 h2 g1 g2 f1 f2) q⟩
end
end VL

namespace VL
open PySem PySem.Spec PyProof.Rows L2
/-! ### xs[i] op= v -/
section
variable {K : PySem.W.Frag} {G : Gs} {B : Bs} {env : Vn} {σ : L2.St} {R R' R1 H H' H1 : Hp} {Q : XV → Prop} {nx : Vn → Prop} {rt : XV → Prop} {bk ct : Vn → Prop} {Qe : Vn → Prop} {Qb : Bool → Prop} {Ql : List D → Prop}
theorem vs_augS {i : Nat} {ti te : TE} {tip : TIp} {ds : List D} (hd : env[i]? = some (.mu (.lst ds))) (h : VE K G B ti env fun y => ∃ (z : Int) (j : Nat) (d : D), y = .p (.int z) ∧ ixN ds.length z = some j ∧ ds[j]? = some d ∧ ds.length ≤ 100000 ∧
      VE K G B te env fun x => x.fz fun x => VO K G B tip env (.p d) x fun u => ∃ e, u = .p e ∧ nx (env.set i (.mu (.lst (ds.set j e))))) :
    VS K G B (tAugS (tVar i) ti te (rIxL K) tip rSetL) env nx rt bk ct := fun σ R H r Z kn _ _ _ => by
  obtain ⟨a, y, h1, _⟩ := r.slots i _ hd
  refine ⟨.ref a, h1, h σ R H r _ fun w R1 H1 x r1 s1 hw ⟨z, j, d, e, hj, hg, hlen, q⟩ => ?_⟩
  subst e
  cases hw
  obtain ⟨b, y, g1, g2, g3, g4, g5⟩ := r1.slots i _ hd
  rw [h1] at g1
  cases g1
  obtain ⟨ys, rfl⟩ : ∃ xs, y = .lst xs := by cases y <;> first | exact ⟨_, rfl⟩ | exact g5.elim
  have g6 : AtL K R1 ys ds := g5
  obtain ⟨u, hu, hud⟩ := g6.get hg
  have hL : SqL K H1 a ys := .inl (.inl g4)
  have hat : atI ys z = some u := by
    unfold atI
    rw [g6.len, hj]
    exact hu
  refine ⟨a, ys, z, u, rfl, rfl, hL, hat, q σ R1 H1 r1 _ fun v R2 H2 x r2 s2 hv q2 => ?_⟩
  obtain ⟨R3, x', r3, s3, hv3, ho, q3⟩ := hv.fz r2 q2
  refine q3 σ R3 H2 r3 u v (At.same (s2.trans s3) hud) hv3 _ fun p R4 H4 x4 r4 s4 hp ⟨e, he, q4⟩ => ?_
  subst he
  obtain ⟨b, y, f1, f2, f3, f4, f5⟩ := r4.slots i _ hd
  rw [h1] at f1
  cases f1
  obtain ⟨zs, rfl⟩ : ∃ xs, y = .lst xs := by cases y <;> first | exact ⟨_, rfl⟩ | exact f5.elim
  have f6 : AtL K R4 zs ds := f5
  refine ⟨a, zs, z, j, rfl, rfl, f4, by rw [f6.len]; exact hj, ?_⟩
  exact kn _ σ R4 _ (r4.mut hd h1 (y := .lst (zs.set j p)) (d' := .lst (ds.set j e)) (AtL.set hp j f6)) (((s1.trans s2).trans s3).trans s4) q4
theorem ve_mono {t : TE} {Q' : XV → Prop} (h : VE K G B t env Q) (k : ∀ x, Q x → Q' x) : VE K G B t env Q' := fun σ R H r Qh c => h σ R H r Qh fun v R' H' x r' s' hv q => c v R' H' x r' s' hv (k x q)
theorem vo_mono {t : R2} {x y : XV} {Q' : XV → Prop} (h : VO K G B t env x y Q) (k : ∀ x, Q x → Q' x) : VO K G B t env x y Q' := fun σ R H r v w hv hw Qh c => h σ R H r v w hv hw Qh fun z R' H' x r' s' hz q => c z R' H' x r' s' hz (k x q)
theorem fz_mono {P P' : XV → Prop} {x : XV} (h : x.fz P) (k : ∀ x, P x → P' x) : x.fz P' := by
  cases x with
  | p d => exact fz_p (k _ h)
  | o d => exact fz_o (k _ h)
  | m i d => exact k _ h
/-- xs[i] op= v, whole numbers -/
theorem vs_augI {i : Nat} {ti te : TE} {tip : TIp} {os : List Int} (hd : env[i]? = some (.mu (.lst (os.map D.int)))) (h : VE K G B ti env fun y => ∃ (z : Int) (j : Nat) (d : Int), y = .p (.int z) ∧ ixN os.length z = some j ∧ os[j]? = some d ∧ os.length ≤ 100000 ∧
      VE K G B te env fun x => x.fz fun x => VO K G B tip env (.p (.int d)) x fun u => ∃ e, u = .p (.int e) ∧ nx (env.set i (.mu (.lst ((os.set j e).map D.int))))) :
    VS K G B (tAugS (tVar i) ti te (rIxL K) tip rSetL) env nx rt bk ct := vs_augS hd (ve_mono h fun y ⟨z, j, d, e1, e2, e3, e4, q⟩ => ⟨z, j, .int d, e1, by rw [List.length_map]; exact e2, by rw [List.getElem?_map, e3]; rfl, by rw [List.length_map]; exact e4,
      ve_mono q fun x q => fz_mono q fun x q => vo_mono q fun u ⟨e, eu, q⟩ => ⟨.int e, eu, by rw [← List.map_set]; exact q⟩⟩)
/-- xs[i] = v, whole numbers -/
theorem vg_subI {i : Nat} {te : TE} {os : List Int} {d : Int} (hd : env[i]? = some (.mu (.lst (os.map D.int)))) (h : VE K G B te env fun x => ∃ z j, x = .p (.int z) ∧ ixN os.length z = some j ∧ Qe (env.set i (.mu (.lst ((os.set j d).map D.int))))) :
    VG K G B (gSub (tVar i) te rSetL) (.p (.int d)) env Qe := vg_subL hd (ve_mono h fun x ⟨z, j, e1, e2, q⟩ => ⟨z, j, e1, by rw [List.length_map]; exact e2, by rw [← List.map_set]; exact q⟩)
end
end VL

namespace VL
open PySem PySem.Spec PyProof.Rows L2
/-! ### a dict is walked: it is locked meanwhile -/
/-- no dict within -/
def D.noD : Nat → D → Bool
  | 0, _ => false
  | n + 1, d => match d with
    | .tup ds => ds.all (D.noD n)
    | .lst ds => ds.all (D.noD n)
    | .ro ds => ds.all (D.noD n)
    | .dct _ => false
    | .lkd _ _ => false
    | _ => true
def Slot.noD0 : D → Bool
  | .lst ds => ds.all (D.noD 9)
  | .dct kvs => kvs.all fun p => D.noD 9 p.2
  | _ => false
def Slot.noD : Slot → Bool
  | .u => true
  | .p d => D.noD 9 d
  | .mu (.lst ds) => ds.all (D.noD 9)
  | .mu (.dct kvs) => kvs.all fun p => D.noD 9 p.2
  | .mu _ => false
  | .hp gs => gs.all fun p => Slot.noD0 p.2
theorem noD_map {α : Type} {n : Nat} {f : α → D} (h : ∀ x, D.noD n (f x) = true) (l : List α) : (l.map f).all (D.noD n) = true := by
  rw [List.all_map]
  exact List.all_eq_true.mpr fun x _ => h x
theorem noD_ints (n : Nat) (l : List Int) : (l.map D.int).all (D.noD (n + 1)) = true := noD_map (fun _ => rfl) l
section
variable {K : PySem.W.Frag} {G : Gs} {B : Bs} {env : Vn} {σ : L2.St} {R R' R1 H H' H1 : Hp} {Q : XV → Prop} {nx : Vn → Prop} {rt : XV → Prop} {bk ct : Vn → Prop} {Qe : Vn → Prop} {Qb : Bool → Prop} {Ql : List D → Prop}
theorem at_unl {a : Addr} {o : Obj} {zs : List (Key × V)} (ha : R a = some (.frz o (.dK zs))) : ∀ (n : Nat) {v : V} {d : D}, D.noD n d = true → At K R v d → At K (without R a) v d := by
  have ne : ∀ {b : Addr} {y : HO}, R b = some y → (∀ o u, y ≠ .frz o (.dK u)) → without R a b = some y := fun {b y} e hn => by
    rw [without_ne]
    · exact e
    · rintro rfl
      rw [ha] at e
      cases e
      exact hn _ _ rfl
  intro n
  induction n with
  | zero => intro v d h _; cases h
  | succ n ih =>
    intro v d h t
    cases t with
    | non => exact .non
    | bl b => exact .bl b
    | int i => exact .int i
    | str x => exact .str x
    | @tup b xs ds hs ht =>
      refine .tup (xs := xs) ?_ ?_
      · rcases hs with (hs | ⟨o, hs⟩) | hs
        · exact .inl (.inl (ne hs fun _ _ z => by cases z))
        · exact .inl (.inr ⟨o, ne hs fun _ _ z => by cases z⟩)
        · exact .inr hs
      · have hd : ∀ d ∈ ds, D.noD n d = true := List.all_eq_true.mp h
        exact ht.imp fun v d hm => ih (hd d hm)
    | @lst b xs ds hs ht =>
      refine .lst (xs := xs) (ne hs fun _ _ z => by cases z) ?_
      have hd : ∀ d ∈ ds, D.noD n d = true := List.all_eq_true.mp h
      exact ht.imp fun v d hm => ih (hd d hm)
    | @ro b xs ds hs ht =>
      refine .ro (xs := xs) ?_ ?_
      · rcases hs with (hs | ⟨o, hs⟩) | hs
        · exact .inl (.inl (ne hs fun _ _ z => by cases z))
        · exact .inl (.inr ⟨o, ne hs fun _ _ z => by cases z⟩)
        · exact .inr hs
      · have hd : ∀ d ∈ ds, D.noD n d = true := List.all_eq_true.mp h
        exact ht.imp fun v d hm => ih (hd d hm)
    | dct _ _ => cases h
    | lkd _ _ => cases h
    | ty n => exact .ty n
    | @st b φ hs => exact .st (φ := φ) (ne hs fun _ _ z => by cases z)
    | ptr b => exact .ptr b
    | @cm b i j hs => exact .cm (i := i) (j := j) (ne hs fun _ _ z => by cases z)
theorem mat_unl {a : Addr} {o : Obj} {zs : List (Key × V)} (ha : R a = some (.frz o (.dK zs))) {y : HO} {d : D} (h : Slot.noD (.mu d) = true) (t : MAt K R y d) : MAt K (without R a) y d := by
  cases y <;> cases d <;> first
    | exact t.elim
    | exact AtL.imp t fun v d hm => at_unl ha 9 (List.all_eq_true.mp h d hm)
    | exact AtD.imp t fun v d hm => at_unl ha 9 (by
        obtain ⟨p, hp, rfl⟩ := List.mem_map.mp hm
        exact List.all_eq_true.mp h p hp)
theorem slot_unl {a : Addr} {o : Obj} {zs : List (Key × V)} (ha : R a = some (.frz o (.dK zs))) {i : Nat} {sl : Slot} (h : sl.noD = true) (t : SlotAt K B R H σ i sl) : SlotAt K B (without R a) H σ i sl := by
  have wn : ∀ {b : Addr}, R b = none → without R a b = none := fun {b} e => by
    by_cases q : b = a
    · rw [q]
      exact without_same
    · rw [without_ne q]
      exact e
  cases sl with
  | u => trivial
  | p d =>
    obtain ⟨v, g1, g2⟩ := t
    exact ⟨v, g1, at_unl ha 9 h g2⟩
  | mu d =>
    obtain ⟨b, y, g1, g2, g3, g4, g5⟩ := t
    exact ⟨b, y, g1, g2, wn g3, g4, mat_unl ha h g5⟩
  | hp gs =>
    refine fun g hg => ?_
    obtain ⟨g2, g3, y, g4, g5⟩ := t g hg
    have hd : Slot.noD0 g.2 = true := List.all_eq_true.mp h g hg
    exact ⟨g2, wn g3, y, g4, mat_unl ha (by
      cases e : g.2 <;> rw [e] at hd <;> first | exact hd | cases hd) g5⟩
/-- the slot's own dict is locked -/
theorem Rep.lock (r : Rep K G B env σ R H) {i : Nat} {a : Addr} {o : Obj} {xs : List (Key × V)} {ds : List (Key × D)} (hd : env[i]? = some (.mu (.dct ds))) (h1 : σ[i]? = some (some (.ref a))) (hB : B.H a = none) (hR : R a = none) (hH : H a = some (.dK xs)) (hA : AtD K R xs ds) :
    Rep K G B (env.set i (.p (.lkd a ds))) σ (upd R a (.frz o (.dK xs))) (upd H a (.frz o (.dK xs))) := by
  have ow : Slot.owns σ[i]? a (.mu (.dct ds)) := h1
  have hi := (List.getElem?_eq_some_iff.mp hd).1
  have no := r.noown hd ow
  have np := r.nopr' hd ow
  have r1 := (r.forget i).mutA (y := .frz o (.dK xs)) hH rfl hB hR no np
  have r2 := r1.put (a := a) (o := .frz o (.dK xs)) upd_same hB hR no np
  have r3 := r2.set (i := i) (sl := .p (.lkd a ds)) (v := .ref a) (by rw [List.length_set]; exact hi) ⟨.ref a, List.getElem?_set_self (r.ilt hi), .lkd (o := o) (xs := xs) upd_same (hA.same (same_take hR))⟩ noOwn_p
  rw [set_same h1, List.set_set] at r3
  exact r3
/-- .. and unlocked, the slots but i known to hold no dict -/
theorem Rep.unlock (r : Rep K G B env σ R H) {i : Nat} {a : Addr} {o : Obj} {xs : List (Key × V)} {ds : List (Key × D)} (hd : env[i]? = some (.p (.lkd a ds))) (hB : B.H a = none) (hR : R a = some (.frz o (.dK xs))) (hn : ∀ (j : Nat) s, j ≠ i → env[j]? = some s → s.noD = true) (hA : AtD K (without R a) xs ds) :
    Rep K G B (env.set i (.mu (.dct ds))) σ (without R a) (upd H a (.dK xs)) := by
  have h1 : σ[i]? = some (some (.ref a)) := by
    obtain ⟨v, g1, g2⟩ := r.slots i _ hd
    cases g2
    exact g1
  have hi := (List.getElem?_eq_some_iff.mp hd).1
  have hH := r.sub.of hR rfl
  have r1 := r.forget i
  obtain ⟨no, np⟩ := r1.known hR
  have r2 := r1.drop hB fun j sl hj t => by
    by_cases q : j = i
    · subst q
      rw [List.getElem?_set_self hi] at hj
      cases hj
      trivial
    · rw [List.getElem?_set_ne (Ne.symm q)] at hj
      exact slot_unl hR (hn j sl q hj) t
  have r3 := r2.mutA (y := .dK xs) hH rfl hB without_same no np
  have r4 := r3.set (i := i) (sl := .mu (.dct ds)) (v := .ref a) (by rw [List.length_set]; exact hi) ⟨a, .dK xs, List.getElem?_set_self (r.ilt hi), hB, without_same, upd_same, hA⟩ fun b z => by
    have z' : (some (some (V.ref a)) : Option (Option V)) = some (some (.ref b)) := z
    cases z'
    exact ⟨no, np⟩
  rw [set_same h1, List.set_set] at r4
  exact r4
/-- the slots that are known behind a return: none -/
theorem Rep.blank (r : Rep K G B env σ R H) : Rep K G B (List.replicate σ.length .u) σ R H := by
  have no : ∀ (j : Nat) s, (List.replicate σ.length Slot.u)[j]? = some s → s = .u := fun j s hj => by
    rw [List.getElem?_replicate] at hj
    split at hj
    · exact (Option.some.inj hj).symm
    · cases hj
  exact {
    sub0 := r.sub0
    tab := r.tab
    step := r.step
    len := by rw [List.length_replicate]
    dist := fun j k sj sk a _ hj _ o => by
      rw [no j sj hj] at o
      exact o.elim
    pr := fun q hq => by
      obtain ⟨g1, g2, g3, g0, g4⟩ := r.pr q hq
      exact ⟨g1, g2, g3, g0, fun j e hj o => by
        rw [no j e hj] at o
        exact o.elim⟩
    slots := fun j s hj => by
      rw [no j s hj]
      trivial }
/-- the slot i holds the locked dict, and the others hold none -/
def Unl (i : Nat) (a : Addr) (ds : List (Key × D)) (e : Vn) : Prop := e[i]? = some (.p (.lkd a ds)) ∧ ∀ (j : Nat) s, j ≠ i → e[j]? = some s → s.noD = true
theorem unl_of {i : Nat} {a : Addr} {ds : List (Key × D)} {e : Vn} (h1 : e[i]? = some (.p (.lkd a ds))) (h2 : (e.set i .u).all Slot.noD = true) : Unl i a ds e := ⟨h1, fun j s hj hs => List.all_eq_true.mp h2 s (by
  refine List.mem_of_getElem? (i := j) ?_
  rw [List.getElem?_set_ne (Ne.symm hj)]
  exact hs)⟩
def XV.noD : XV → Bool
  | .p d => D.noD 9 d
  | _ => false
/-- a statement that walks a slot's own dict -/
theorem vs_lockM {i : Nat} {t : TS} {ds : List (Key × D)} (hd : env[i]? = some (.mu (.dct ds)))
    (h : ∀ a, VS K G B t (env.set i (.p (.lkd a ds))) (fun e => Unl i a ds e ∧ nx (e.set i (.mu (.dct ds)))) (fun x => x.noD = true ∧ rt x) (fun e => Unl i a ds e ∧ bk (e.set i (.mu (.dct ds)))) (fun e => Unl i a ds e ∧ ct (e.set i (.mu (.dct ds))))) :
    VS K G B (tLock t) env nx rt bk ct := fun σ R H r Z kn kr kb kc => by
  obtain ⟨a, y, h1, hB, hR, hH, hm⟩ := r.slots i _ hd
  obtain ⟨xs, rfl⟩ : ∃ xs, y = .dK xs := by cases y <;> first | exact ⟨_, rfl⟩ | exact hm.elim
  have hA : AtD K R xs ds := hm
  refine ⟨a, .dK xs, hH, trivial, fun o => ?_⟩
  have r1 := r.lock (o := o) hd h1 hB hR hH hA
  have key : ∀ {R' : Hp}, Same (upd R a (.frz o (.dK xs))) R' → R' a = some (.frz o (.dK xs)) ∧ Same R (without R' a) := fun {R'} s => ⟨s a _ upd_same, fun b x e => by
    have hb : b ≠ a := fun z => by rw [z, hR] at e; cases e
    rw [without_ne hb]
    exact s b x (by rw [upd_ne hb]; exact e)⟩
  have fin : ∀ {e : Vn} {σ' R' H'}, Rep K G B e σ' R' H' → Same (upd R a (.frz o (.dK xs))) R' → Unl i a ds e → H' a = some (.frz o (.dK xs)) ∧ Rep K G B (e.set i (.mu (.dct ds))) σ' (without R' a) (upd H' a (.dK xs)) := fun r' s' u => by
    obtain ⟨k1, k2⟩ := key s'
    exact ⟨r'.sub.of k1 (rfl), r'.unlock u.1 hB k1 u.2 (hA.same k2)⟩
  refine h a σ _ _ r1 _ (fun e σ' R' H' r' s' ⟨u, q⟩ => ?_) (fun v e σ' R' H' x r' s' hv ⟨hn, q⟩ => ?_) (fun e σ' R' H' r' s' ⟨u, q⟩ => ?_) (fun e σ' R' H' r' s' ⟨u, q⟩ => ?_)
  · obtain ⟨f1, f2⟩ := fin r' s' u
    exact ⟨f1, kn _ σ' _ _ f2 (key s').2 q⟩
  · obtain ⟨k1, k2⟩ := key s'
    cases x with
    | p d =>
      have rb := r'.blank
      have hH' := rb.sub.of k1 rfl
      obtain ⟨no, np⟩ := rb.known k1
      -- the slots are forgotten, the dict is unlocked
      have r2 := (rb.drop hB fun j sl hj t => by
        rw [List.getElem?_replicate] at hj
        split at hj
        · cases hj
          trivial
        · cases hj).mutA (y := .dK xs) hH' rfl hB without_same no np
      exact ⟨rb.sub.of k1 (rfl), kr v _ σ' _ _ (.p d) r2 k2 (at_unl k1 9 hn hv) q⟩
    | _ => cases hn
  · obtain ⟨f1, f2⟩ := fin r' s' u
    exact ⟨f1, kb _ σ' _ _ f2 (key s').2 q⟩
  · obtain ⟨f1, f2⟩ := fin r' s' u
    exact ⟨f1, kc _ σ' _ _ f2 (key s').2 q⟩
/-- .. a term -/
theorem ve_lockM {i : Nat} {t : TE} {ds : List (Key × D)} (hd : env[i]? = some (.mu (.dct ds))) (hn : ((env.set i .u).all Slot.noD) = true)
    (h : ∀ a, VE K G B t (env.set i (.p (.lkd a ds))) fun x => x.fz fun x => x.noD = true ∧ Q x) : VE K G B (tLockE t) env Q := fun σ R H r Qh k => by
  obtain ⟨a, y, h1, hB, hR, hH, hm⟩ := r.slots i _ hd
  obtain ⟨xs, rfl⟩ : ∃ xs, y = .dK xs := by cases y <;> first | exact ⟨_, rfl⟩ | exact hm.elim
  have hA : AtD K R xs ds := hm
  refine ⟨a, .dK xs, hH, trivial, fun o => ?_⟩
  have r1 := r.lock (o := o) hd h1 hB hR hH hA
  have hi := (List.getElem?_eq_some_iff.mp hd).1
  have uu : Unl i a ds (env.set i (.p (.lkd a ds))) := unl_of (List.getElem?_set_self hi) (by rw [List.set_set]; exact hn)
  have eb : (env.set i (.p (.lkd a ds))).set i (.mu (.dct ds)) = env := by
    rw [List.set_set]
    refine List.ext_getElem? fun j => ?_
    by_cases q : i = j
    · subst q
      rw [List.getElem?_set_self hi, hd]
    · rw [List.getElem?_set_ne q]
  refine h a σ _ _ r1 _ fun v R' H' x r' s' hv q => ?_
  obtain ⟨R2, x2, r2, s2, hv2, ho, q2⟩ := hv.fz r' q
  have s3 := s'.trans s2
  have k1 : R2 a = some (.frz o (.dK xs)) := s3 a _ upd_same
  have k2 : Same R (without R2 a) := fun b x e => by
    have hb : b ≠ a := fun z => by rw [z, hR] at e; cases e
    rw [without_ne hb]
    exact s3 b x (by rw [upd_ne hb]; exact e)
  have r3 := r2.unlock uu.1 hB k1 uu.2 (hA.same k2)
  rw [eb] at r3
  cases x2 with
  | p d => exact ⟨r2.sub.of k1 (rfl), k v _ _ (.p d) r3 k2 (at_unl k1 9 q2.1 hv2) q2.2⟩
  | _ => cases q2.1
/-- for k in d, d locked -/
theorem AtD.get : ∀ {vs : List (Key × V)} {ds : List (Key × D)} {i : Nat} {k : Key} {d : D}, AtD K R vs ds → ds[i]? = some (k, d) → ∃ v, vs[i]? = some (k, v) ∧ At K R v d
  | _, _, _, _, _, .nil, h => by simp at h
  | _, _, 0, _, _, .cons h _, e => by
    simp at e
    obtain ⟨rfl, rfl⟩ := e
    exact ⟨_, rfl, h⟩
  | _, _, i + 1, _, _, .cons _ t, e => by
    obtain ⟨v, h1, h2⟩ := AtD.get (i := i) t (by simpa using e)
    exact ⟨v, by simpa using h1, h2⟩
theorem keyD_at (k : Key) : At K R (kV k) (keyD k) := by
  cases k with
  | inl i => exact .int i
  | inr x => exact .str x
theorem wk_keys {a : Addr} {o : Obj} {xs : List (Key × V)} {ds : List (Key × D)} (hl : R a = some (.frz o (.dK xs))) (ha : AtD K R xs ds) : Wk K G B R (Itk a o xs) (ds.map fun p => keyD p.1) where
  go := fun B' e σ R' H' r s i d hi => by
    rw [List.getElem?_map] at hi
    cases he : ds[i]? with
    | none => rw [he] at hi; cases hi
    | some p =>
      obtain ⟨k, u⟩ := p
      rw [he] at hi
      cases hi
      obtain ⟨v, hv, _⟩ := ha.get he
      have hH : H' a = some (.frz o (.dK xs)) := r.sub.of (s a _ hl) rfl
      refine ⟨⟨hH, (List.getElem?_eq_some_iff.mp hv).1⟩, ?_⟩
      rintro w H2 ⟨rfl, k', v', hk, rfl⟩
      rw [hv] at hk
      cases hk
      exact ⟨R', r, Same.refl _, keyD_at k⟩
  stop := fun B' e σ R' H' r s => ⟨r.sub.of (s a _ hl) (rfl), by rw [List.length_map, ha.len]; exact Nat.le_refl _⟩
theorem vi_keys {td : TE} (h : VE K G B td env fun x => x.fz fun x => ∃ a ds, x = .p (.lkd a ds) ∧ Ql (ds.map fun p => keyD p.1)) : VI K G B (iKeys td) env Ql := fun σ R H r Qh k =>
  h σ R H r _ fun v R1 H1 x r1 s1 hv q => by
    obtain ⟨R2, x2, r2, s2, hv2, ho, a, ds, rfl, q2⟩ := hv.fz r1 q
    cases hv2 with
    | @lkd a o xs _ h1 h2 => exact ⟨_, o, rfl, .inl ⟨xs, r2.sub.of h1 (rfl), k _ R2 H1 _ r2 (s1.trans s2) (wk_keys h1 h2) q2⟩⟩
end
end VL

namespace VL
open PySem PySem.Spec PyProof.Rows L2
def tDead : TS := fun _ _ _ => False
theorem ps_dead {X : Cx} {st : Stmt} : PS X st tDead := ⟨fun _ _ _ _ _ _ h => h.elim⟩
/-! ### min of a list of data that can be compared -/
def rMinD (K : PySem.W.Frag) : List V → Hp → VK → Prop := fun vs H Q => ∃ (a : Addr) (xs : List V) (d : PyData) (ds : List PyData), vs = [V.ref a] ∧ SqL K H a xs ∧ DpAll K H xs (d :: ds) ∧ PySem.W.AlikeAll (d :: ds) ∧ PyData.depthAll (d :: ds) ≤ 60 ∧
  ∀ i v, xs[i]? = some v → (d :: ds).getD i .none = PySem.W.minD d ds → Q v H
section
variable {X : Cx}
open PySem.W PySem.SeqAt in
theorem cr_minD (hc : X.calm = true) (hu : X.A.units + 64 < cLine) : CallR X (.builtin "min") (rMinD X.K) := by
  intro pins s σ H vs us Q I r h
  obtain ⟨a, xs, d, ds, rfl, hs, hd, hal, hdep, q⟩ := h
  obtain ⟨its, rv, hl, _⟩ := I.list hs
  rw [Vals.ref1 r]
  obtain ⟨as, hr⟩ := Dp.readsAll I (d :: ds) xs its hd rv
  have hr' : ReadsAll s.heap its.toArray.toList (d :: ds) as := by simpa using hr
  have hn : its.toArray.size = ds.length + 1 := readsAll_len hr'
  refine call_min_walkH (iter_listW (A := X.A.in1) (I.ok.hd hc) hl.isList fun s₂ e W st hfp hw hk => ?_)
  refine ⟨_, _, _, _, _, _, _, s.heap, _, rfl, W, st, hfp, by omega, hw, hk, cmpIn_lt (A := X.A.in1) hr' hal (by show X.A.units + 1 + _ < _; omega), fun v s' hP m => ?_⟩
  obtain ⟨h', tk, rfl, hk'⟩ := moved_old e rfl m
  have e1 : its.toArray.size - 1 = ds.length := by omega
  have e2 := (argBest_fold dataLt PyData.none d ds ds.length (Nat.le_refl _)).2
  rw [List.take_length] at e2
  rw [e1] at hP
  have hP2 : its[argBest (fun i j => dataLt ((d :: ds).getD i .none) ((d :: ds).getD j .none)) ds.length]? = some v := by simpa using hP
  have hlx : xs.length = its.length := rv.length
  have hlt := (List.getElem?_eq_some_iff.mp hP2).1
  obtain ⟨z, hz⟩ : ∃ z, xs[argBest (fun i j => dataLt ((d :: ds).getD i .none) ((d :: ds).getD j .none)) ds.length]? = some z := ⟨_, List.getElem?_eq_getElem (by omega)⟩
  obtain ⟨w, hw2, rw2⟩ := rv.get hz
  rw [hP2] at hw2
  cases hw2
  exact ⟨z, H, I.kept hk', rw2, q _ z hz e2⟩
end
section
variable {K : PySem.W.Frag} {G : Gs} {B : Bs} {env : Vn} {σ : L2.St} {R R' R1 H H' H1 : Hp} {Q : XV → Prop} {nx : Vn → Prop} {rt : XV → Prop} {bk ct : Vn → Prop} {Qe : Vn → Prop} {Qb : Bool → Prop} {Ql : List D → Prop}
def pairD (p : Int × Int) : D := .tup [.int p.1, .int p.2]
theorem pairD_py (p : Int × Int) : D.py (pairD p) = PySem.W.Datum.toD p := by
  unfold pairD
  simp only [D.py, D.pys]
  rfl
theorem pairs_py : ∀ ps : List (Int × Int), D.pys (ps.map pairD) = ps.map PySem.W.Datum.toD
  | [] => by simp only [List.map_nil, D.pys]
  | p :: r => by simp only [List.map_cons, D.pys, pairD_py, pairs_py r]
theorem pairs_cmps : ∀ ps : List (Int × Int), D.cmps (ps.map pairD) = true
  | [] => by simp only [List.map_nil, D.cmps]
  | p :: r => by simp only [List.map_cons, D.cmps, pairD, D.cmp, pairs_cmps r, Bool.and_self]
theorem minOf_le : ∀ (x : Int × Int) (xs : List (Int × Int)), (PySem.W.minOf x xs).1 ≤ x.1 ∧ (∀ y ∈ xs, (PySem.W.minOf x xs).1 ≤ y.1) ∧ (PySem.W.minOf x xs = x ∨ PySem.W.minOf x xs ∈ xs)
  | x, [] => ⟨Int.le_refl _, fun _ h => (by cases h), .inl rfl⟩
  | x, y :: r => by
    have e : PySem.W.minOf x (y :: r) = PySem.W.minOf (if PySem.W.DatumOrd.lt y x = true then y else x) r := rfl
    by_cases hlt : PySem.W.DatumOrd.lt y x = true
    · rw [e, if_pos hlt]
      obtain ⟨h1, h2, h3⟩ := minOf_le y r
      have hyx : y.1 ≤ x.1 := by
        have hlt' : (if y.1 = x.1 then PySem.W.DatumOrd.lt y.2 x.2 else PySem.W.DatumOrd.lt y.1 x.1) = true := hlt
        by_cases q : y.1 = x.1
        · omega
        · rw [if_neg q] at hlt'
          have : decide (y.1 < x.1) = true := hlt'
          have := of_decide_eq_true this
          omega
      refine ⟨by omega, fun z hz => ?_, ?_⟩
      · rcases List.mem_cons.mp hz with rfl | hz
        · exact h1
        · exact h2 z hz
      · rcases h3 with h3 | h3
        · exact .inr (by rw [h3]; exact List.mem_cons_self)
        · exact .inr (List.mem_cons_of_mem _ h3)
    · rw [e, if_neg hlt]
      obtain ⟨h1, h2, h3⟩ := minOf_le x r
      have hyx : x.1 ≤ y.1 := by
        have hlt' : ¬ (if y.1 = x.1 then PySem.W.DatumOrd.lt y.2 x.2 else PySem.W.DatumOrd.lt y.1 x.1) = true := hlt
        by_cases q : y.1 = x.1
        · omega
        · rw [if_neg q] at hlt'
          have : ¬ decide (y.1 < x.1) = true := hlt'
          have h8 : x.1 ≤ y.1 := by simpa using this
          exact h8
      refine ⟨h1, fun z hz => ?_, ?_⟩
      · rcases List.mem_cons.mp hz with rfl | hz
        · omega
        · exact h2 z hz
      · rcases h3 with h3 | h3
        · exact .inl h3
        · exact .inr (List.mem_cons_of_mem _ h3)
/-- min(ps), ps a list of pairs of whole numbers -/
theorem vc_minP {x : XV} {ps : List (Int × Int)} (hx : x.seqL = some (ps.map pairD)) (hne : ps ≠ []) (q : ∀ m ∈ ps, (∀ y ∈ ps, m.1 ≤ y.1) → Q (.p (pairD m))) : VC K G B (rMinD K) env [x] Q := vc1 fun σ R H r v hv Qh k => by
  obtain ⟨p, r2, rfl⟩ : ∃ p r, ps = p :: r := by
    cases ps with
    | nil => exact absurd rfl hne
    | cons p r => exact ⟨p, r, rfl⟩
  obtain ⟨a, xs, rfl, h1, h2⟩ := seqL_at r hv hx
  have hdp : DpAll K H xs (PySem.W.Datum.toD p :: r2.map PySem.W.Datum.toD) := by
    have := at_dps r.sub h2 (pairs_cmps _)
    rw [pairs_py, List.map_cons] at this
    exact this
  have hal : PySem.W.AlikeAll (PySem.W.Datum.toD p :: r2.map PySem.W.Datum.toD) := PySem.W.alikeAll_datum (p :: r2)
  have hdep : PyData.depthAll (PySem.W.Datum.toD p :: r2.map PySem.W.Datum.toD) ≤ 60 := Nat.le_trans (PySem.W.depthAll_map (p :: r2)) (by decide)
  refine ⟨a, xs, _, _, rfl, h1, hdp, hal, hdep, fun i z hz hm => ?_⟩
  rw [PySem.W.minD_map] at hm
  obtain ⟨m1, m2, m3⟩ := minOf_le p r2
  have hi : i < (p :: r2).length := by
    have := (List.getElem?_eq_some_iff.mp hz).1
    rw [h2.len, List.length_map] at this
    exact this
  have hpi : (p :: r2)[i]? = some (p :: r2)[i] := List.getElem?_eq_getElem hi
  have e3 : PySem.W.Datum.toD ((p :: r2)[i]) = PySem.W.Datum.toD (PySem.W.minOf p r2) := by
    have : ((p :: r2).map (PySem.W.Datum.toD (α := Int × Int))).getD i .none = PySem.W.Datum.toD ((p :: r2)[i]) := by
      rw [List.getD_eq_getElem?_getD, List.getElem?_map, hpi]
      rfl
    rw [← hm, ← this]
    rfl
  have e4 : (p :: r2)[i] = PySem.W.minOf p r2 := by
    generalize (p :: r2)[i] = u at e3
    generalize PySem.W.minOf p r2 = w at e3
    obtain ⟨u1, u2⟩ := u
    obtain ⟨w1, w2⟩ := w
    have e5 : PyData.tuple [.int u1, .int u2] = .tuple [.int w1, .int w2] := e3
    cases e5
    rfl
  obtain ⟨z', hz', hat⟩ := h2.get (i := i) (d := pairD (p :: r2)[i]) (by rw [List.getElem?_map, hpi]; rfl)
  rw [hz] at hz'
  cases hz'
  refine k z R H (.p (pairD (p :: r2)[i])) r (Same.refl R) hat (q _ (List.getElem_mem hi) fun y hy => ?_)
  rw [e4]
  rcases List.mem_cons.mp hy with rfl | hy
  · exact m1
  · exact m2 y hy
theorem vc_minI {x : XV} {ns : List Int} (hx : x.seqL = some (ns.map D.int)) (hne : ns ≠ []) (q : ∀ m ∈ ns, (∀ y ∈ ns, m ≤ y) → Q (.p (.int m))) : VC K G B (rMin K) env [x] Q := vc1 fun σ R H r v hv Qh k => by
  obtain ⟨a, rfl, h1⟩ := ints_at r hv hx
  exact ⟨a, ns, rfl, h1, List.length_pos_iff.mpr hne, fun m hm hy => k _ R H (.p (.int m)) r (Same.refl R) (.int m) (q m hm hy)⟩
theorem vc_maxI {x : XV} {ns : List Int} (hx : x.seqL = some (ns.map D.int)) (hne : ns ≠ []) (q : ∀ m ∈ ns, (∀ y ∈ ns, y ≤ m) → Q (.p (.int m))) : VC K G B (rMax K) env [x] Q := vc1 fun σ R H r v hv Qh k => by
  obtain ⟨a, rfl, h1⟩ := ints_at r hv hx
  exact ⟨a, ns, rfl, h1, List.length_pos_iff.mpr hne, fun m hm hy => k _ R H (.p (.int m)) r (Same.refl R) (.int m) (q m hm hy)⟩
/-! ### len(d), list(d) of a slot's own dict or a plain one -/
def XV.exD : XV → Option (List (Key × D))
  | .p (.dct ds) => some ds
  | .m _ (.dct ds) => some ds
  | _ => none
theorem exD_at (r : Rep K G B env σ R H) {v : V} {x : XV} {ds : List (Key × D)} (h : VAt K B env σ R H v x) (e : x.exD = some ds) : ∃ a xs, v = .ref a ∧ H a = some (.dK xs) ∧ AtD K R xs ds := by
  cases x with
  | p d =>
    cases d with
    | dct es =>
      cases e
      cases h with
      | @dct a xs _ h1 h2 => exact ⟨a, xs, rfl, r.sub.of h1 (rfl), h2⟩
    | _ => cases e
  | o d => cases e
  | m i d =>
    cases d with
    | dct es =>
      cases e
      obtain ⟨h1, h2⟩ := h
      obtain ⟨a, y, g1, g2, g3, g4, g5⟩ := r.slots i _ h1
      rw [g1] at h2
      cases h2
      cases y with
      | dK xs => exact ⟨a, xs, rfl, g4, g5⟩
      | _ => exact g5.elim
    | _ => cases e
theorem vc_lenD {x : XV} {ds : List (Key × D)} (hx : x.exD = some ds) (q : Q (.p (.int ds.length))) : VC K G B (fun xs H Q => ∃ a kvs, xs = [V.ref a] ∧ H a = some (.dK kvs) ∧ Q (.int kvs.length) H) env [x] Q := vc1 fun σ R H r v hv Qh k => by
  obtain ⟨a, xs, rfl, h1, h2⟩ := exD_at r hv hx
  exact ⟨a, xs, rfl, h1, by rw [h2.len]; exact k _ R H (.p (.int _)) r (Same.refl R) (.int _) q⟩
theorem AtD.keys : ∀ {xs : List (Key × V)} {ds : List (Key × D)}, AtD K R xs ds → AtL K R (xs.map fun kv => kV kv.1) (ds.map fun p => keyD p.1)
  | _, _, .nil => .nil
  | _, _, .cons h t => .cons (keyD_at _) (AtD.keys t)
theorem vc_listD {x : XV} {ds : List (Key × D)} (hx : x.exD = some ds) (q : Q (.o (.lst (ds.map fun p => keyD p.1)))) : VC K G B rListD env [x] Q := vc1 fun σ R H r v hv Qh k => by
  obtain ⟨a, xs, rfl, h1, h2⟩ := exD_at r hv hx
  refine ⟨a, xs, rfl, h1, fun p hp => ?_⟩
  obtain ⟨r2, v2⟩ := own_lst r hp h2.keys
  exact k _ R _ _ r2 (Same.refl R) v2 q
/-! ### a slot is forgotten -/
theorem vs_forget (i : Nat) {t : TS} (h : VS K G B t (env.set i .u) nx rt bk ct) : VS K G B t env nx rt bk ct := fun σ R H r => h σ R H (r.forget i)
theorem vs_frz (i : Nat) {t : TS} {d : D} (h0 : env[i]? = some (.p d) ∨ env[i]? = some (.mu d)) (h : VS K G B t (env.set i (.p d)) nx rt bk ct) : VS K G B t env nx rt bk ct := by
  rcases h0 with h0 | h0
  · have hi := (List.getElem?_eq_some_iff.mp h0).1
    have e : env.set i (.p d) = env := by
      refine List.ext_getElem? fun j => ?_
      by_cases q : i = j
      · subst q
        rw [List.getElem?_set_self hi, h0]
      · rw [List.getElem?_set_ne q]
    rw [e] at h
    exact h
  · exact vs_freeze i h0 h
/-! ### a statement that is not reached -/
theorem vs_dead (h : False) : VS K G B tDead env nx rt bk ct := h.elim
end
end VL

namespace VL
open PySem PySem.Spec PyProof.Rows L2
section
variable {K : PySem.W.Frag} {G : Gs} {B : Bs} {env : Vn} {σ : L2.St} {R R' R1 H H' H1 : Hp} {Q : XV → Prop} {nx : Vn → Prop} {rt : XV → Prop} {bk ct : Vn → Prop} {Qe : Vn → Prop} {Qb : Bool → Prop} {Ql : List D → Prop}
/-! ### in, of texts -/
theorem inV_strs (z : Str) : ∀ zs : List Str, inV (.str z) (zs.map V.str) = decide (z ∈ zs)
  | [] => by simp [inV]
  | y :: r => by
    have ih := inV_strs z r
    have e : inV (.str z) ((y :: r).map V.str) = (eqV (.str y) (.str z) || inV (.str z) (r.map V.str)) := by
      simp [inV]
    rw [e, ih]
    have e2 : eqV (.str y) (.str z) = decide (y = z) := by
      show (y == z) = _
      by_cases h : y = z
      · rw [h]; simp
      · rw [decide_eq_false h]; exact beq_eq_false_iff_ne.mpr h
    rw [e2]
    by_cases h : y = z
    · simp [h]
    · have h2 : ¬ z = y := fun q => h q.symm
      simp [h, h2]
theorem flat_strs (zs : List Str) : (zs.map V.str).all flatV = true := by
  rw [List.all_map]
  exact List.all_eq_true.mpr fun _ _ => rfl
/-- a list or a tuple, read -/
def XV.anyL : XV → Option (List D)
  | .p (.tup ds) => some ds
  | x => x.seqL
theorem anyL_at (r : Rep K G B env σ R H) {v : V} {x : XV} {ds : List D} (h : VAt K B env σ R H v x) (e : x.anyL = some ds) : ∃ a xs, v = .ref a ∧ (SqL K H a xs ∨ SqT K H a xs) ∧ AtL K R xs ds := by
  by_cases q : ∃ es, x = .p (.tup es)
  · obtain ⟨es, rfl⟩ := q
    cases e
    obtain ⟨a, xs, h1, h2, _, h3⟩ := tup_at r h
    exact ⟨a, xs, h1, .inr h2, h3⟩
  · have e2 : x.seqL = some ds := by
      cases x with
      | p d => cases d <;> first | exact e | exact absurd ⟨_, rfl⟩ q
      | o d => exact e
      | m i d => exact e
    obtain ⟨a, xs, h1, h2, h3⟩ := seqL_at r h e2
    exact ⟨a, xs, h1, .inl h2, h3⟩
theorem vo_inS {x : XV} {z : Str} {zs : List Str} (hx : x.anyL = some (zs.map D.str)) (q : Q (.p (.bl (decide (z ∈ zs))))) : VO K G B (rIn K false) env (.p (.str z)) x Q := fun σ R H r v w hv hw Qh k => by
  obtain ⟨a, xs, rfl, h1, h2⟩ := anyL_at r hw hx
  rw [AtL.strs_inv h2] at h1
  rw [str_at hv]
  refine ⟨a, _, rfl, h1, rfl, flat_strs zs, ?_⟩
  show Qh (.bl (inV (.str z) (zs.map V.str))) H
  rw [inV_strs]
  exact k _ R H (.p (.bl _)) r (Same.refl R) (.bl _) q
theorem vo_notInS {x : XV} {z : Str} {zs : List Str} (hx : x.anyL = some (zs.map D.str)) (q : Q (.p (.bl (!decide (z ∈ zs))))) : VO K G B (rIn K true) env (.p (.str z)) x Q := fun σ R H r v w hv hw Qh k => by
  obtain ⟨a, xs, rfl, h1, h2⟩ := anyL_at r hw hx
  rw [AtL.strs_inv h2] at h1
  rw [str_at hv]
  refine ⟨a, _, rfl, h1, rfl, flat_strs zs, ?_⟩
  show Qh (.bl (!inV (.str z) (zs.map V.str))) H
  rw [inV_strs]
  exact k _ R H (.p (.bl _)) r (Same.refl R) (.bl _) q
/-! ### a told dict whose values hold no dict is the caller's own -/
theorem at_unl2 {a : Addr} {zs : List (Key × V)} (ha : R a = some (.dK zs)) : ∀ (n : Nat) {v : V} {d : D}, D.noD n d = true → At K R v d → At K (without R a) v d := by
  have ne : ∀ {b : Addr} {y : HO}, R b = some y → (∀ u, y ≠ .dK u) → without R a b = some y := fun {b y} e hn => by
    rw [without_ne]
    · exact e
    · rintro rfl
      rw [ha] at e
      cases e
      exact hn _ rfl
  intro n
  induction n with
  | zero => intro v d h _; cases h
  | succ n ih =>
    intro v d h t
    cases t with
    | non => exact .non
    | bl b => exact .bl b
    | int i => exact .int i
    | str x => exact .str x
    | @tup b xs ds hs ht =>
      refine .tup (xs := xs) ?_ ?_
      · rcases hs with (hs | ⟨o, hs⟩) | hs
        · exact .inl (.inl (ne hs fun _ z => by cases z))
        · exact .inl (.inr ⟨o, ne hs fun _ z => by cases z⟩)
        · exact .inr hs
      · have hd : ∀ d ∈ ds, D.noD n d = true := List.all_eq_true.mp h
        exact ht.imp fun v d hm => ih (hd d hm)
    | @lst b xs ds hs ht =>
      refine .lst (xs := xs) (ne hs fun _ z => by cases z) ?_
      have hd : ∀ d ∈ ds, D.noD n d = true := List.all_eq_true.mp h
      exact ht.imp fun v d hm => ih (hd d hm)
    | @ro b xs ds hs ht =>
      refine .ro (xs := xs) ?_ ?_
      · rcases hs with (hs | ⟨o, hs⟩) | hs
        · exact .inl (.inl (ne hs fun _ z => by cases z))
        · exact .inl (.inr ⟨o, ne hs fun _ z => by cases z⟩)
        · exact .inr hs
      · have hd : ∀ d ∈ ds, D.noD n d = true := List.all_eq_true.mp h
        exact ht.imp fun v d hm => ih (hd d hm)
    | dct _ _ => cases h
    | lkd _ _ => cases h
    | ty n => exact .ty n
    | @st b φ hs => exact .st (φ := φ) (ne hs fun _ z => by cases z)
    | ptr b => exact .ptr b
    | @cm b i j hs => exact .cm (i := i) (j := j) (ne hs fun _ z => by cases z)
theorem ve_callD {α : Type} {args : α → List D} {pre : α → Prop} {post : α → D → Prop} {rs : α → Addr → Prop} {E : XK} {X : Addr → Prop} {t : TA} (L : Lets K G B E X)
    (h : VA K G B t env fun xs => ∃ x, xs = (args x).map XV.p ∧ pre x ∧ (∀ C, rs x C → X C) ∧ ∀ d, post x d → ∃ ds, d = .dct ds ∧ (ds.all fun p => D.noD 9 p.2) = true ∧ Q (.o d)) : VE K G B (tCall (SpA K G true args pre post rs) [] E t) env Q := fun σ R H rp Qh k =>
  h σ R H rp _ fun vs R1 H1 xs r1 s1 hv _ ⟨x, e, hp, hr, q⟩ => by
    subst e
    rw [List.append_nil]
    refine ⟨R1, x, ⟨r1.sub, r1.tab'⟩, atL_of hv, hp, fun v R' H' d s ha hf hd => ?_, fun C R' H' s hc => L C R' H' (r1.step.trans s) (hr C hc)⟩
    obtain ⟨a, rfl, hn, hz⟩ := hf rfl
    obtain ⟨ds, rfl, fl, q⟩ := q d hd
    refine k (.ref a) (VL.without R' a) H' (.o (.dct ds)) (r1.goW s hn) (s1.trans (r1.sameW s hn)) ?_ q
    cases ha with
    | @dct _ xs _ h1 h2 =>
      exact ⟨a, _, rfl, r1.fresh hn, without_same, s.sub.of h1 (rfl), AtD.imp h2 (fun v d hm => at_unl2 h1 9 (by
        obtain ⟨p, hp, rfl⟩ := List.mem_map.mp hm
        exact List.all_eq_true.mp fl p hp)), r1.noslot hn, r1.nopr hn⟩
end
end VL

namespace VL
open PySem PySem.Spec PyProof.Rows L2
/-! ### max(xs, default=d), whole numbers -/
def rMaxDef (K : PySem.W.Frag) : List V → List V → Hp → VK → Prop := fun vs zs H Q => ∃ (a : Addr) (ns : List Int) (d : Int), vs = [V.ref a] ∧ zs = [.int d] ∧ SqL K H a (ns.map V.int) ∧ (ns = [] → Q (.int d) H) ∧ ∀ m, m ∈ ns → (∀ y ∈ ns, y ≤ m) → Q (.int m) H
theorem dp_ints {K : PySem.W.Frag} {H : Hp} : ∀ ns : List Int, DpAll K H (ns.map V.int) (ns.map PyData.int)
  | [] => .nil
  | n :: r => .cons (.int n) (dp_ints r)
theorem maxOf_ge : ∀ (x : Int) (xs : List Int), x ≤ PySem.W.maxOf x xs ∧ (∀ y ∈ xs, y ≤ PySem.W.maxOf x xs) ∧ (PySem.W.maxOf x xs = x ∨ PySem.W.maxOf x xs ∈ xs)
  | x, [] => ⟨Int.le_refl _, fun _ h => (by cases h), .inl rfl⟩
  | x, y :: r => by
    have e : PySem.W.maxOf x (y :: r) = PySem.W.maxOf (if PySem.W.DatumOrd.lt x y = true then y else x) r := rfl
    have el : PySem.W.DatumOrd.lt x y = decide (x < y) := rfl
    by_cases hlt : x < y
    · rw [e, el, if_pos (decide_eq_true hlt)]
      obtain ⟨h1, h2, h3⟩ := maxOf_ge y r
      refine ⟨by omega, fun z hz => ?_, ?_⟩
      · rcases List.mem_cons.mp hz with rfl | hz
        · exact h1
        · exact h2 z hz
      · rcases h3 with h3 | h3
        · exact .inr (by rw [h3]; exact List.mem_cons_self)
        · exact .inr (List.mem_cons_of_mem _ h3)
    · rw [e, el, if_neg (by simpa using hlt)]
      obtain ⟨h1, h2, h3⟩ := maxOf_ge x r
      refine ⟨h1, fun z hz => ?_, ?_⟩
      · rcases List.mem_cons.mp hz with rfl | hz
        · omega
        · exact h2 z hz
      · rcases h3 with h3 | h3
        · exact .inl h3
        · exact .inr (List.mem_cons_of_mem _ h3)
section
variable {X : Cx}
open PySem.W PySem.SeqAt in
theorem cr_maxDef (hc : X.calm = true) (hu : X.A.units + 64 < cLine) : CallRK X (.builtin "max") [Str.ofString "default"] (rMaxDef X.K) := by
  intro pins s σ H vs zs us ws Q I r rz h
  obtain ⟨a, ns, d, rfl, rfl, hs, q0, q1⟩ := h
  obtain rfl := Vals.ref1 r
  obtain ⟨w1, rfl, e1⟩ := vals1 rz
  obtain ⟨td, rfl⟩ := e1
  obtain ⟨its, rv, hl, _⟩ := I.list hs
  obtain ⟨as, hr⟩ := Dp.readsAll I (ns.map PyData.int) _ its (dp_ints ns) rv
  have hr' : ReadsAll s.heap its.toArray.toList (ns.map Datum.toD) as := hr
  refine max_list_datum_default (α := Int) (I.ok.hd hc) hl.isList ⟨as, hr'⟩ (by show X.A.units + 1 + 0 < _; omega) (fun e0 h' tk kp => ?_) fun y ys i v h' tk e0 hv hh kp => ?_
  · exact ⟨.int d, H, I.kept kp, ⟨td, rfl⟩, q0 e0⟩
  · obtain ⟨bs, hb⟩ := hh
    obtain ⟨m1, m2, m3⟩ := maxOf_ge y ys
    generalize maxOf y ys = m at hb m1 m2 m3
    have hb2 : Reads h' v (.int m) bs := hb
    cases hb2
    refine ⟨.int m, H, I.kept kp, ⟨_, rfl⟩, q1 m ?_ ?_⟩
    · rw [e0]
      rcases m3 with rfl | m3
      · exact List.mem_cons_self
      · exact List.mem_cons_of_mem _ m3
    · intro z hz
      rw [e0] at hz
      rcases List.mem_cons.mp hz with rfl | hz
      · exact m1
      · exact m2 z hz
end
section
variable {K : PySem.W.Frag} {G : Gs} {B : Bs} {env : Vn} {σ : L2.St} {R R' R1 H H' H1 : Hp} {Q : XV → Prop}
theorem ve_maxDef {t : TA} {d : Int} (h : VA K G B t env fun xs => ∃ x ns, xs = [x] ∧ x.seqL = some (ns.map D.int) ∧ (ns = [] → Q (.p (.int d))) ∧ ∀ m ∈ ns, (∀ y ∈ ns, y ≤ m) → Q (.p (.int m))) :
    VE K G B (tCKw (rMaxDef K) t (tCons (tC (.int d)) tNil)) env Q := fun σ R H r Qh k =>
  h σ R H r _ fun vs R1 H1 xs r1 s1 hv _ ⟨x, ns, e, hx, q0, q1⟩ => by
    subst e
    match vs, hv with
    | [v], ⟨hv, _⟩ =>
      obtain ⟨a, rfl, hs⟩ := ints_at r1 hv hx
      exact ⟨a, ns, d, rfl, rfl, hs, fun e => k _ R1 H1 (.p (.int d)) r1 s1 (.int d) (q0 e), fun m hm hy => k _ R1 H1 (.p (.int m)) r1 s1 (.int m) (q1 m hm hy)⟩
end
end VL

namespace VL
open PySem PySem.Spec PySem.SeqAt PyProof.Rows L2 PySem.W
/-! ### lambda name: known.get(name), called -/
def lamBody (p1 p2 p3 p4 : Pos) : Expr := .Call (.Attribute (.Name "known" p1) "get" p2) [.Name "name" p3] [] p4
section
variable {prog : Program} {w : World} {A : Around} {E : Value → Shared → Prop} {s : Shared} {f c' cl d : Addr} {qual : Str} {params : Arguments} {scope : Scope} {clos : List (Str × Addr)} {p1 p2 p3 p4 : Pos} {pm ctv : Value} {vs : List (Key × Value)} {k : Key} {u : Value} {n : Int} {t : Tok}
theorem lam_get (hroom : A.depth < recursionLimit) (hlim : s.heap.NoLimit) (hf : s.heap.get? f = some (kla_obj "<lambda>" qual params (lamBody p1 p2 p3 p4) scope clos pm c' ctv)) (hcode : s.heap.CodeRec (.ref c') qual)
    (hcell : s.heap.IsCell cl (some (.ref d))) (hd : s.heap.DictOf (mixKind prog w) d vs) (hsys : (d == sysModules) = false) (hk : (mixKind prog w).is k u = true) (hv : valueAt vs k = some (.int n t))
    (hline : (p2.endLine == p4.line) = true) (hki : scope.kind = .function) (hco : scope.isCoroutine = false) (hgen : scope.isGenerator = false) (hlo : scope.names.lookup ("name" : Str) = some NameKind.local) (hfr : scope.names.lookup ("known" : Str) = some NameKind.free)
    (hnc : ∀ x ∈ scope.names, x.2 ≠ .cell) (hcl : clos.lookup ("known" : Str) = some cl)
    (hbind : bindArgs (kla_fn "<lambda>" qual params (lamBody p1 p2 p3 p4) scope clos pm (.ref c') ctv) ⟨[u], []⟩ = pure [(("name" : Str), u)]) :
    wpAny (model prog w) A (call (.ref f) [u]) (KeyPure (.int n) s) E s := by
  refine wpAny_call (kla_callFunE hroom hf rfl hco hgen rfl hcode ?_)
  rw [hbind]
  refine wpAny_pure (wpAny_newFunctionEnv hnc (fun x hx => by cases List.mem_singleton.mp hx; exact hlo) (fun h₁ hns hsb => ⟨hlim.fresh _ hsb, ?_⟩) hki)
  have kp : ∀ b o, s.heap.get? b = some o → h₁.get? b = some o := fun b o e => hsb.extBut b o (Nat.ne_of_lt (Heap.lt_size e)) (Heap.get?_push_of_some _ e)
  have hcell' : h₁.IsCell cl (some (.ref d)) := by
    obtain ⟨o, ho, hdd⟩ := hcell
    exact ⟨o, kp _ _ ho, hdd⟩
  have hd' : h₁.DictOf (mixKind prog w) d vs := by
    obtain ⟨o, es, ep, g1, g2⟩ := hd
    exact ⟨o, es, ep, kp _ _ g1, g2⟩
  refine kla_codeExpr ?_
  unfold lamBody
  refine wpAny_Call_method rfl rfl hline PySem.F.plainAttrs_dict PySem.F.slot_dict_get PySem.F.type_dict_get (wpAny_Name (wpAny_loadName_free hki hfr hcl hcell' ?_))
  refine ⟨hd'.typeIs, fun b q => ?_, ?_⟩
  · cases q
    obtain ⟨ob, _, _, h1, h2, _⟩ := hd'
    exact ⟨ob, h1, h2.2.1⟩
  refine Calls.callWith_builtin rfl (Calls.evalArgs_plain (Calls.spliced_cons (wpAny_Name (wpAny_loadName_local hki hlo hns rfl (Calls.spliced_nil ?_)))))
  refine call_meetsIn PySem.F.slot_dict_get hd'.typeIs PySem.F.entry_dict_get (PySem.F.args_dict_get_2 _ _) (meets_dict_get (mixKind prog w) d hk hsys) ⟨_, hd'.mapOf, ?_⟩
  rw [hv]
  exact ⟨_, _, rfl, kp, Reads.int n t⟩
end
end VL

namespace VL
open PySem PySem.Spec PySem.SeqAt PyProof.Rows L2 PySem.W LamX
/-- a lambda has been made: the table at P has grown, or not -/
structure TabGo (P : Addr) (q : Str) (H H1 : Hp) : Prop where
  now : TabS H1 P q
  how : H1 = H ∨ ∃ (ps qs : Array Value) (d : Addr), H P = some (.tbl ps) ∧ H d = none ∧ H1 = upd (upd H P (.tbl qs)) d (CodeO d q)
theorem TabGo.stay {P : Addr} {q : Str} {H H1 : Hp} (g : TabGo P q H H1) {b : Addr} {o : HO} (hb : b ≠ P) (e : H b = some o) : H1 b = some o := by
  rcases g.how with h | ⟨ps, qs, d, _, hd, h⟩
  · rw [h]
    exact e
  · rw [h, upd_ne (ne_of_none e hd), upd_ne hb]
    exact e
theorem TabGo.keep {P : Addr} {q : Str} {H H1 : Hp} (g : TabGo P q H H1) {b : Addr} {o : HO} (e : H b = some o) (n : isTb o = false) (h : TabS H P q) : H1 b = some o := g.stay (fun z => by
  obtain ⟨ps, w, _⟩ := h
  rw [z, w] at e
  cases e
  cases n) e
section
variable {X : Cx} {pins : List (Addr × Obj)} {σ : L2.St} {H : Hp} {s : Shared}
theorem lam_mk {q : Str} {c P : Addr} {ag : Arguments} {bd : Expr} {sc : Scope} {at_ : Pos} {Z : Value → Shared → Prop} {Y : Value → Shared → Prop} (J : Inv X pins σ H s) (T : TabB X.base X.mg c P) (hc : X.env.code = .ref c) (hq : q = X.env.qual ++ "<lambda>")
    (tb : TabS H P q) (nd : defaultsOf ag X.env = ([], [])) (fr : ∀ y ∈ sc.names, y.2 = .free → ∃ c, X.env.cells.lookup y.1 = some c)
    (k : ∀ (f d : Addr) (pm ctv : Value) (H1 : Hp) (s1 : Shared), Inv X pins σ H1 s1 → TabGo P q H H1 → s1.heap.get? f = some (kla_obj "<lambda>" q ag bd sc (cloFrom X.env.cells sc.names []) pm d ctv) → H1 d = some (CodeO d q) → Y (.ref f) s1) :
    wpAny (model X.prog X.w) X.A (eval (.Lambda ag bd sc at_) X.env) Y Z s := by
  subst hq
  obtain ⟨ps, tP, t3, among⟩ := id tb
  have bP := T.bm.keeps J.bk
  have oP := J.hok P _ tP
  refine kla_eval nd ?_
  cases found : codeAmong at_ ps.toList with
  | some cv =>
    obtain ⟨d, rfl, hd⟩ := among at_ cv found
    exact kla_makeFunctionHit (mg := X.mg) (c := c) (P := P) (ps := ps) (closure_ok fr) J.ok.glob (J.mod.glob.keeps J.bk) hc (T.code.keeps J.bk) oP t3 found bP fun ctv h' tk keeps _ =>
      k h'.objs.size d _ ctv H _ (J.kept fun b o e => Heap.get?_push_of_some _ (keeps b o e)) ⟨tb, .inl rfl⟩ (Heap.get?_push_size _ rfl) hd
  | none =>
    refine kla_makeFunction (mg := X.mg) (c := c) (P := P) (ps := ps) (closure_ok fr) J.ok.glob (J.mod.glob.keeps J.bk) hc (T.code.keeps J.bk) oP t3 found T.gP bP fun d ctv h' tk but ge lt rec tab => ?_
    obtain ⟨_, oc, vs, t, e, hoc, hdt, hv⟩ := rec
    cases e
    have dn : H d = none := J.hok.fresh ge
    have pd : P ≠ d := ne_of_none tP dn
    have J1 := inv_table (t' := tk) (more := #[rawInt at_.line, rawInt at_.col, .ref d]) (h' := h'.push (kla_obj "<lambda>" (X.env.qual ++ "<lambda>") ag bd sc (cloFrom X.env.cells sc.names []) ((X.mg "__name__").getD .none) d ctv)) J tP
      (fun b o hb e => Heap.get?_push_of_some _ (but b o hb e)) (Heap.get?_push_of_some _ tab) ge ⟨oc, vs, t, Heap.get?_push_of_some _ hoc, hdt, hv⟩
    refine k h'.objs.size d _ ctv _ _ J1 ⟨⟨_, (upd_ne pd).trans upd_same, ?_, fun p' cv hcv => ?_⟩, .inr ⟨ps, _, d, tP, dn, rfl⟩⟩ (Heap.get?_push_size _ rfl) upd_same
    · rw [Array.toList_append]
      exact PySem.TriplesOk_snoc _ _ _ _ t3
    · rw [Array.toList_append] at hcv
      rcases among_app _ t3 hcv with z | z
      · obtain ⟨d0, e1, e2⟩ := among p' cv z
        refine ⟨d0, e1, ?_⟩
        have n1 : d0 ≠ P := fun w => by
          rw [w, tP] at e2
          cases e2
        rw [upd_ne (ne_of_none e2 dn), upd_ne n1]
        exact e2
      · exact ⟨d, z, upd_same⟩
end
/-! ### sorted(e, key=lambda name: known.get(name)) -/
def SortQ (K : PySem.W.Frag) (P : Addr) (i : Nat) (σ : L2.St) (Q : VK) : List V → Hp → Prop
  | [x], H1 => TabS H1 P lamName ∧ ∃ (a : Addr) (zs : List Str) (d : Addr) (kvs : List (Key × V)) (g : Str → Int), x = .ref a ∧ SqL K H1 a (zs.map V.str) ∧ zs.length ≤ 100000 ∧ σ[i]? = some (some (.ref d)) ∧
    Rd H1 d (.dK kvs) ∧ (∀ z ∈ zs, valV kvs (.inr z) = some (.int (g z))) ∧
    ∀ (p : Addr) (H2 : Hp), TabGo P lamName H1 H2 → H2 p = none → Q (.ref p) (upd H2 p (.lst ((zs.mergeSort fun a b => decide (g a ≤ g b)).map V.str)))
  | _, _ => False
def tSortBy (K : PySem.W.Frag) (P : Addr) (i : Nat) (te : TE) : TE := fun σ H Q => te σ H fun x H1 => SortQ K P i σ Q [x] H1
theorem each_str : ∀ {zs : List Str} {us : List Value}, Vals (zs.map V.str) us → EachIs (fun v z => ∃ t, v = Value.str z t) us zs
  | [], _, r => by cases r; exact .nil
  | z :: zs, _, r => by
    cases r with
    | cons h t =>
      obtain ⟨t', rfl⟩ := h
      exact .cons ⟨t', rfl⟩ (each_str t)
theorem vals_str : ∀ {zs : List Str} {us : List Value}, EachIs (fun v z => ∃ t, v = Value.str z t) us zs → Vals (zs.map V.str) us
  | _, _, .nil => .nil
  | _, _, .cons ⟨t, e⟩ h => .cons ⟨t, e⟩ (vals_str h)
section
variable {X : Cx} {c P : Addr} {i : Nat} {k : Nat} {te : TE} {e : Expr} {params : Arguments} {scope : Scope} {p1 p2 p3 p4 q1 lpos kpos pos : Pos}
theorem pe_sortBy (hr : Room (k + 1) X.A) (hg : Gl X "sorted") (hm : X.mg "sorted" = none) (he : PE X e te) (TB : TabB X.base X.mg c P) (hcode : X.env.code = .ref c)
    (hqn : lamName = X.env.qual ++ "<lambda>") (hdef : defaultsOf params X.env = ([], [])) (hN : X.N[i]? = some ("known" : Str)) (hcellk : X.env.scope.names.lookup ("known" : Str) = some NameKind.cell)
    (hline : (p2.endLine == p4.line) = true) (hki : scope.kind = .function) (hco : scope.isCoroutine = false) (hgen : scope.isGenerator = false) (hlo : scope.names.lookup ("name" : Str) = some NameKind.local) (hfr : scope.names.lookup ("known" : Str) = some NameKind.free)
    (hnc : ∀ x ∈ scope.names, x.2 ≠ .cell) (hfree : ∀ y ∈ scope.names, y.2 = .free → y.1 = ("known" : Str))
    (hbind : ∀ (clos : List (Str × Addr)) (pm ctv : Value) (c' : Addr) (u : Value), bindArgs (kla_fn "<lambda>" lamName params (lamBody p1 p2 p3 p4) scope clos pm (.ref c') ctv) ⟨[u], []⟩ = pure [(("name" : Str), u)])
    (hse0 : starEach [e] X.env = (false, eval e X.env) :: starEach [] X.env := by rfl) (hse : backTo pos (starEach [e] X.env) = (false, eval e X.env) :: backTo pos (starEach [] X.env) := by rfl) (hpl : (backTo pos (starEach [e] X.env)).any (·.1) = false := by rfl)
    (hall : (backToKw pos (keywordEach [⟨some "key", .Lambda params (lamBody p1 p2 p3 p4) scope lpos, kpos⟩] X.env)).all (·.1.isSome) = true := by rfl) (hnone : (backToKw pos (keywordEach [⟨some "key", .Lambda params (lamBody p1 p2 p3 p4) scope lpos, kpos⟩] X.env)).any (·.1.isNone) = false := by rfl) :
    PE X (.Call (.Name "sorted" q1) [e] [⟨some "key", .Lambda params (lamBody p1 p2 p3 p4) scope lpos, kpos⟩] pos) (tSortBy X.K P i te) := by
  refine ⟨fun pins s σ H Q I h => ?_⟩
  refine wpAny_Call_Name_kw (ld_blt I hg hm (u := .builtin "sorted") (by decide +kernel) ?_ (by decide) (by decide))
  have ha : PA X [e] (tCons te tNil) := pa_cons he pa_nil hse0
  refine PyProof.Rows.callWith_kw (thn (ha.run pos pins s σ H (SortQ X.K P i σ Q) I h) fun us s1 ⟨vs, H1, I1, r1, q1⟩ => ?_) hse hpl hall hnone
  cases r1 with
  | nil => exact q1.elim
  | @cons x u vs us rx rt =>
  cases rt with
  | cons _ _ => exact q1.elim
  | nil =>
  obtain ⟨hTb, a, zs, d, kvs, g, rfl, hsl, hlen, hσ, hrd, hval, q⟩ := q1
  cases rx
  show wpAny _ _ (evalAll ((do let v ← eval (.Lambda params (lamBody p1 p2 p3 p4) scope lpos) X.env; standAt pos; pure v) :: [])) _ _ s1
  have hfr2 : ∀ y ∈ scope.names, y.2 = .free → ∃ c, X.env.cells.lookup y.1 = some c := fun y hy hf => by
    rw [hfree y hy hf]
    exact I1.ok.has _ (.inl hcellk)
  refine wpAny_evalAll_cons (wpAny_bind (lam_mk I1 TB hcode hqn hTb hdef hfr2 fun f c' pm ctv H2 s2 I2 tg hf hc => wpAny_bind (wpAny_standAt (wpAny_pure (wpAny_evalAll_nil ?_)))))
  have hsl2 : SqL X.K H2 a (zs.map V.str) := by
    rcases hsl with (hs | ⟨o, hs⟩) | hs
    · exact .inl (.inl (tg.keep hs rfl hTb))
    · exact .inl (.inr ⟨o, tg.keep hs rfl hTb⟩)
    · exact .inr hs
  have hrd2 : Rd H2 d (.dK kvs) := by
    rcases hrd with hs | ⟨o, hs⟩
    · exact .inl (tg.keep hs rfl hTb)
    · exact .inr ⟨o, tg.keep hs rfl hTb⟩
  obtain ⟨its, rv, hl, hz⟩ := I2.list hsl2
  obtain ⟨_, hsys, dvs, rel, dd⟩ := dk_rd I2.hok hrd2
  have hcr : s2.heap.CodeRec (.ref c') lamName := NdefX.codeO_at I2.hok hc
  obtain ⟨cl, hcl, hcv⟩ : ∃ cl, X.env.cells.lookup ("known" : Str) = some cl ∧ s2.heap.IsCell cl (some (.ref d)) := by
    obtain ⟨m, hn, hl⟩ := I2.loc
    obtain ⟨u, ru, hlk⟩ := hl i _ _ hN hσ (.inr (.inl hcellk))
    cases ru
    rcases hlk with ⟨hk2, _⟩ | ⟨_, c2, h1, h2⟩
    · have hk3 : X.env.scope.names.lookup ("known" : Str) = some .local := hk2
      rw [hcellk] at hk3
      cases hk3
    · exact ⟨c2, h1, h2⟩
  have hclo : (cloFrom X.env.cells scope.names []).lookup ("known" : Str) = some cl := NdefX.clo_has hfr2 (PySem.mem_of_lookup hfr) hcl
  refine sorted_key_data (b := false) (fun z : Str => .int (g z)) hl.isList (each_str rv) (AllAlike.of fun _ _ => by simp [PySem.W.alike]) (Sortable.others fun _ => ⟨(by intro z; cases z), (by intro xs z; cases z)⟩) ?_ (fun z _ => ?_) (ksk_s1 _ _) (fun _ => ksk_l1 _ _) (fun _ => ksk_t1 _ _)
    (fun v z ⟨t, ev⟩ hzm h tk kp => ?_) fun out c2 h' tk kp fr hD hol eo => ?_
  · exact Nat.le_trans hlen (by decide)
  · have := hr.un
    show X.A.units + 2 + 0 < _
    omega
  · subst ev
    obtain ⟨t2, hu1⟩ : ∃ t, valueAt dvs (.inr z) = some (.int (g z) t) := by
      have := rel.val (.inr z)
      rw [hval z hzm] at this
      cases e2 : valueAt dvs (.inr z) with
      | none => rw [e2] at this; exact this.elim
      | some u2 =>
        rw [e2] at this
        obtain ⟨t2, rfl⟩ := this
        exact ⟨t2, rfl⟩
    have hcr2 : h.CodeRec (.ref c') lamName := by
      obtain ⟨c0, oc, vs, t, e0, g1, g2⟩ := hcr
      exact ⟨c0, oc, vs, t, e0, kp _ _ g1, g2⟩
    have hcv2 : h.IsCell cl (some (.ref d)) := by
      obtain ⟨o, ho, hdd⟩ := hcv
      exact ⟨o, kp _ _ ho, hdd⟩
    have dd2 : h.DictOf (mixKind X.prog X.w) d dvs := by
      obtain ⟨o, es, ep, g1, g2⟩ := dd
      exact ⟨o, es, ep, kp _ _ g1, g2⟩
    refine lam_get (s := { s2 with heap := h, toks := tk }) (k := .inr z) ?_ (I2.nolimit.keeps kp) (kp _ _ hf) hcr2 hcv2 dd2 hsys (kV_is (k := .inr z) ⟨t, rfl⟩) hu1 hline hki hco hgen hlo hfr hnc hclo (hbind _ _ _ _ _)
    have := hr.dp
    show X.A.depth < recursionLimit
    omega
  · rw [dataLe_int g] at eo
    have hlen2 : ((zs.mergeSort fun a b => decide (g a ≤ g b)).map V.str).length ≤ sizeLine := by
      rw [List.length_map, List.length_mergeSort]
      exact Nat.le_trans hlen (by decide)
    exact ⟨.ref _, upd H2 (s2.heap.objs.size + 1) (.lst ((zs.mergeSort fun a b => decide (g a ≤ g b)).map V.str)), I2.laid (t' := tk) kp (Nat.le_succ _) ⟨hlen2, out, c2, vals_str eo, hD⟩, rfl, q _ _ tg (I2.hok.fresh (Nat.le_succ _))⟩
end
end VL

namespace VL
open PySem PySem.Spec PySem.SeqAt PyProof.Rows L2 PySem.W LamX
section
variable {K : PySem.W.Frag} {G : Gs} {B : Bs} {env : Vn} {σ : L2.St} {R R' R1 H H' H1 : Hp} {Q : XV → Prop}
theorem step_tab (s : Sub K G R H) {P : Addr} {ps : Array Value} (hP : R P = some (.tbl ps)) (g : TabGo P lamName H H1) : Step K G R H R H1 where
  same := Same.refl R
  sub := fun b x e => by
    by_cases hb : b = P
    · subst hb
      rw [hP] at e
      cases e
      exact g.now
    · cases ho : H b with
      | none =>
        rw [s.none ho] at e
        cases e
      | some o =>
        refine subAt_go (s b x e) ((g.stay hb ho).trans ho.symm) fun c u hc hu => g.keep hc ?_ (s P _ hP)
        cases u <;> first | rfl | cases hu
  kept := fun b y e n => g.stay (fun z => by
    rw [z] at n
    cases n _ hP) e
  out := fun _ _ _ _ n => n
/-- the dict of a slot -/
def SlotD (env : Vn) (i : Nat) (kvs : List (Key × D)) : Prop := env[i]? = some (.p (.dct kvs)) ∨ env[i]? = some (.mu (.dct kvs))
theorem slotD_at (r : Rep K G B env σ R H) {i : Nat} {kvs : List (Key × D)} (h : SlotD env i kvs) : ∃ a xs, σ[i]? = some (some (.ref a)) ∧ Rd H a (.dK xs) ∧ AtD K R xs kvs := by
  rcases h with h | h
  · obtain ⟨v, h1, h2⟩ := r.slots i _ h
    cases h2 with
    | @dct a xs _ g1 g2 => exact ⟨a, xs, h1, .inl (r.sub.of g1 rfl), g2⟩
  · obtain ⟨a, y, h1, h2, h3, h4, h5⟩ := r.slots i _ h
    cases y with
    | dK xs => exact ⟨a, xs, h1, .inl h4, h5⟩
    | _ => exact h5.elim
theorem ve_sortBy {P : Addr} {i : Nat} {te : TE} (hP : G.tab = some P)
    (h : VE K G B te env fun x => x.fz fun x => ∃ (zs : List Str) (kvs : List (Key × D)) (g : Str → Int), x.seqL = some (zs.map D.str) ∧ SlotD env i kvs ∧ (∀ z ∈ zs, valD kvs (.inr z) = some (.int (g z))) ∧ zs.length ≤ 100000 ∧ Q (.o (.lst ((zs.mergeSort fun a b => decide (g a ≤ g b)).map D.str)))) :
    VE K G B (tSortBy K P i te) env Q := fun σ R H r Qh k =>
  h σ R H r _ fun v R1 H1 x r1 s1 hv q => by
    obtain ⟨R2, x', r2, s2, hv2, ho, zs, kvs, g, hx, hs, hg, hl, q2⟩ := hv.fz r1 q
    obtain ⟨ps, hR⟩ := r2.tab' P hP
    have hT := r2.sub P _ hR
    obtain ⟨a, xs, rfl, h1, h2⟩ := seqL_at r2 hv2 hx
    rw [AtL.strs_inv h2] at h1
    obtain ⟨d, ys, e1, e2, e3⟩ := slotD_at r2 hs
    refine ⟨hT, a, zs, d, ys, g, rfl, h1, hl, e1, e2, fun z hz => ?_, fun p H2 tg hp => ?_⟩
    · obtain ⟨w, hw, hd⟩ := (e3.val (k := .inr z)).1 _ (hg z hz)
      cases hd
      exact hw
    · have st := step_tab r2.sub hR tg
      have hstr : ∀ zs : List Str, AtL K R2 (zs.map V.str) (zs.map D.str) := fun zs => by
        induction zs with
        | nil => exact .nil
        | cons z r ih => exact .cons (.str z) ih
      obtain ⟨r3, v3⟩ := own_lst (r2.go st) hp (hstr _)
      exact k _ R2 _ _ r3 (s1.trans s2) v3 q2
end
/-! ### a def whose code object is known -/
structure FunC (K : PySem.W.Frag) (x qual : Str) (st : Stmt) (f : Addr) (fd : FuncData) (c : Addr) : Prop where
  ex : ∃ (o1 : Value) (o2 : Option Addr) (kV doc pm : Value) (an : Option Addr) (ct : Value) (sl : Array (Option Value)),
    fd = fnOf x qual (defArgs st) (defBody st) (defScope st) .none kV doc pm an (.ref c) ct ∧ K.lookup f = some ⟨o1, o2, .func fd, sl⟩ ∧ codeIn K (.ref c) qual = true
  kp : keepIn K (.ref f) = true
section
variable {P : Program} {w : World} {K : PySem.W.Frag} {mg : Str → Option Value} {base : Heap}
theorem FunC.ok {x qual : Str} {st : Stmt} {f c : Addr} {fd : FuncData} {N ps : List Str} {k : Nat} {sp : Sp} (F : FunC K x qual st f fd c) (S : FnScope N ps (defScope st)) (len : ∀ vs H Q E, sp vs H Q E → vs.length = ps.length)
    (body : ∀ (A : Around) (outer : List Env) (s : Shared) (H : Hp) (vs : List V) (Q : VK) (E : XK), Room k (A.deeper (envOfC qual (defScope st) s.heap.objs.size f (.ref c))) → sp vs H Q E →
      ∃ t, PSs (cxOf CX0 P w K mg base N qual (defScope st) f (.ref c) A outer s H E).nox (defBody st) t ∧ t { nx := fun _ H' => Q .non H', rt := Q } (L2.start N vs) H) : FnOk P w K mg base CX0 (k + 1) f fd ps sp := by
  obtain ⟨o1, o2, kV, doc, pm, an, ct, sl, rfl, hk, hc⟩ := F.ex
  refine fn_of hk hc S len fun A outer s H vs Q E hr hs => ?_
  obtain ⟨t, h1, h2⟩ := body A outer s H vs Q E hr hs
  exact ⟨t, h1.nox, h2⟩
structure DfnC (K : PySem.W.Frag) (mg : Str → Option Value) (x : Str) (st : Stmt) (ps : List Str) (c : Addr) : Prop where
  ex : ∃ f fd, FunC K x x st f fd c ∧ mg x = some (.ref f) ∧ Binds K fd ps []
end
theorem tab_code {K : PySem.W.Frag} {x : Str} {f c P : Addr} {o1 : Value} {o2 : Option Addr} {fd : FuncData} {sl : Array (Option Value)} (a : nsIn K mainGlobals x = some (some (.ref f))) (l : K.lookup f = some ⟨o1, o2, .func fd, sl⟩) (t : tabIn K x = some (c, P)) : fd.code = .ref c := by
  unfold tabIn at t
  rw [a] at t
  dsimp only at t
  rw [l] at t
  dsimp only at t
  split at t
  · rename_i c' hc
    split at t
    · split at t
      · cases t
        exact hc
      · cases t
    · cases t
  · cases t
theorem tab_mk {K : PySem.W.Frag} {x : Str} {f c P : Addr} {o1 o3 : Value} {o2 o4 : Option Addr} {fd : FuncData} {sl sk : Array (Option Value)} {vs : Array Value} (a : nsIn K mainGlobals x = some (some (.ref f))) (l : K.lookup f = some ⟨o1, o2, .func fd, sl⟩) (hc : fd.code = .ref c) (lc : K.lookup c = some ⟨o3, o4, .fields vs, sk⟩) (hv : vs[11]? = some (.ref P)) : tabIn K x = some (c, P) := by
  unfold tabIn
  rw [a]
  dsimp only
  rw [l]
  dsimp only
  rw [hc]
  dsimp only
  rw [lc]
  dsimp only
  rw [hv]
/-! ### the end, with a table -/
theorem walk_T {l : OpenLaw} {n k : Nat} {q : Program} {loose : List Str} {XP : (Str → Option Value) → Heap → Prop} {YP : World → Heap → Prop} {d : DefRec} {K : Params → Frag} {CX : World → CXT} {x : Str}
    (hn : l.most = some n) (hn2 : n ≤ sizeLine) (hdf : d.params.defaults = []) (hr : Room k callerA) (hY : ∀ (w : World) (h : Heap), YP w h → (K w.params).In h)
    (F : ∀ (w : World) (mg : Str → Option Value) (fa : Addr) (h : Heap), (∃ lo mean mb, Top q lo mean mg mb h) → (K w.params).In h → h.Ns mainGlobals mg → mg d.name = some (.ref fa) → LawAtS l w (K w.params) (CX w) k n x mg fa h)
    (hE : ∀ (w : World) (H : Hp) (s : Shared) (e : Value) (s' : Shared), CX w [] H s (fun _ _ _ => False) e s' → False) : WalkO q loose XP YP l.row.toRowW d [] (fun f vs => PySem.call f vs) := by
  refine Att.attach_callB hn hdf fun w s0 s1 mg mb fa o pm cd doc a vs ns gr yp ho hd hcd hm hob hin hle hbi hge => ?_
  have kin := hY w _ yp
  obtain ⟨fd, cs, sp, t1, t2, t3, t4, t5, t6⟩ := F w mg fa _ ⟨_, _, _, gr.T⟩ kin gr.T.g hm
  exact law_callTs kin gr.T.g gr.T.b gr.T.builtins gr.T.nolimit hge t1 t2 t3 gr.T.bmain hob hin (Nat.le_trans hle hn2) hr t6 t4 (fun H z1 z2 => t5 H a ns hle hbi z1 z2) (fun H e s' => hE w H s1 e s')
end VL

namespace VL
open PySem PySem.Spec PyProof.Rows L2
theorem units_lt {A : Around} {k : Nat} (hr : Room k A) : A.units < cLine := Nat.lt_of_le_of_lt (Nat.le_add_right _ 64) hr.units
/-! ### texts sorted -/
def leS (a b : Str) : Bool := !ltCps b.cps.toList a.cps.toList
theorem leS_eq (a b : Str) : leS a b = decide (a.cps.toList ≤ b.cps.toList) := by
  unfold leS
  rw [ltCps_eq, Bool.eq_iff_iff]
  simp [List.not_lt]
theorem leS_trans {a b c : Str} (h : leS a b = true) (q : leS b c = true) : leS a c = true := by
  rw [leS_eq, decide_eq_true_iff] at *
  exact List.le_trans h q
theorem leS_total (a b : Str) : (leS a b || leS b a) = true := by
  rw [leS_eq, leS_eq, Bool.or_eq_true, decide_eq_true_iff, decide_eq_true_iff]
  exact List.le_total _ _
theorem leS_antisymm {a b : Str} (h : leS a b = true) (q : leS b a = true) : a = b := by
  rw [leS_eq, decide_eq_true_iff] at h q
  have e := List.le_antisymm h q
  obtain ⟨⟨x⟩⟩ := a
  obtain ⟨⟨y⟩⟩ := b
  have e' : x = y := e
  rw [e']
def srtS (zs : List Str) : List Str := zs.mergeSort leS
theorem sorted_pw : ∀ {l : List Str}, sortedS l = true → l.Pairwise (fun a b => leS a b = true)
  | [], _ => .nil
  | x :: r, h => by
    have key : ∀ (x : Str) (r : List Str), risingS x r = true → r.Pairwise (fun a b => leS a b = true) ∧ ∀ y ∈ r, leS x y = true := by
      intro x r
      induction r generalizing x with
      | nil => exact fun _ => ⟨.nil, fun y hy => by cases hy⟩
      | cons y r ih =>
        intro h
        have h' : (leS x y && risingS y r) = true := h
        rw [Bool.and_eq_true] at h'
        obtain ⟨p, q⟩ := ih y h'.2
        refine ⟨List.pairwise_cons.mpr ⟨q, p⟩, fun z hz => ?_⟩
        rcases List.mem_cons.mp hz with rfl | hz
        · exact h'.1
        · exact leS_trans h'.1 (q z hz)
    obtain ⟨p, q⟩ := key x r h
    exact List.pairwise_cons.mpr ⟨q, p⟩
theorem srtS_uniq {ys zs : List Str} (p : ys.Perm zs) (h : ys.Pairwise fun a b => leS a b = true) : ys = srtS zs :=
  List.Perm.eq_of_pairwise (le := fun a b => leS a b = true) (fun a b _ _ h q => leS_antisymm h q) h (List.pairwise_mergeSort (le := leS) (fun a b c h q => leS_trans h q) (fun a b => leS_total a b) zs) (p.trans (List.mergeSort_perm zs leS).symm)
theorem srtS_perm {ys zs : List Str} (p : ys.Perm zs) : srtS ys = srtS zs := srtS_uniq ((List.mergeSort_perm ys leS).trans p) (List.pairwise_mergeSort (le := leS) (fun a b c h q => leS_trans h q) (fun a b => leS_total a b) ys)
section
variable {K : PySem.W.Frag} {G : Gs} {B : Bs} {env : Vn} {σ : L2.St} {R R' R1 H H' H1 : Hp} {Q : XV → Prop} {nx : Vn → Prop} {rt : XV → Prop} {bk ct : Vn → Prop} {Qe : Vn → Prop} {Qb : Bool → Prop} {Ql : List D → Prop}
theorem atl_strs : ∀ zs : List Str, AtL K R (zs.map V.str) (zs.map D.str)
  | [] => .nil
  | z :: r => .cons (.str z) (atl_strs r)
theorem vc_sortedS {x : XV} {zs : List Str} (hx : x.seqL = some (zs.map D.str)) (hl : zs.length < 64) (q : Q (.o (.lst ((srtS zs).map D.str)))) : VC K G B (rSortedS K) env [x] Q := vc1 fun σ R H r v hv Qh k => by
  obtain ⟨a, xs, rfl, h1, h2⟩ := seqL_at r hv hx
  rw [AtL.strs_inv h2] at h1
  refine ⟨a, zs, rfl, h1, hl, fun ys p hp hs hn => ?_⟩
  obtain ⟨r2, v2⟩ := own_lst r hn (atl_strs ys)
  rw [← srtS_uniq hp (sorted_pw hs)] at q
  exact k _ R _ _ r2 (Same.refl R) v2 q
theorem atl_ints : ∀ zs : List Int, AtL K R (zs.map V.int) (zs.map D.int) := AtL.ints
def srtI (zs : List Int) : List Int := zs.mergeSort fun a b => decide (a ≤ b)
theorem srtI_uniq {ys zs : List Int} (p : ys.Perm zs) (h : ys.Pairwise (· ≤ ·)) : ys = srtI zs :=
  List.Perm.eq_of_pairwise (le := fun a b => a ≤ b) (fun a b _ _ h q => Int.le_antisymm h q) h ((List.pairwise_mergeSort (le := fun a b => decide (a ≤ b)) (fun a b c h q => decide_eq_true (Int.le_trans (of_decide_eq_true h) (of_decide_eq_true q))) (fun a b => by
    rw [Bool.or_eq_true, decide_eq_true_iff, decide_eq_true_iff]
    omega) zs).imp fun h => of_decide_eq_true h) (p.trans (List.mergeSort_perm zs _).symm)
theorem vc_sortedI {x : XV} {zs : List Int} (hx : x.seqL = some (zs.map D.int)) (hl : zs.length < 64) (q : Q (.o (.lst ((srtI zs).map D.int)))) : VC K G B (rSorted K) env [x] Q := vc1 fun σ R H r v hv Qh k => by
  obtain ⟨a, xs, rfl, h1, h2⟩ := seqL_at r hv hx
  rw [AtL.ints_inv h2] at h1
  refine ⟨a, zs, rfl, h1, hl, fun ys p hp hs hn => ?_⟩
  obtain ⟨r2, v2⟩ := own_lst r hn (AtL.ints ys)
  rw [← srtI_uniq hp hs] at q
  exact k _ R _ _ r2 (Same.refl R) v2 q
/-- sorted(d), the keys texts -/
theorem AtD.keyl : ∀ {xs : List (Key × V)} {ds : List (Key × D)}, AtD K R xs ds → xs.map (·.1) = ds.map (·.1)
  | _, _, .nil => rfl
  | _, _, .cons h t => by rw [List.map_cons, List.map_cons, AtD.keyl t]
theorem vc_sortedD {x : XV} {ds : List (Key × D)} {ks : List Str} (hx : x.dctD = some ds) (hk : ds.map (·.1) = ks.map Sum.inr) (hl : ks.length < 64) (q : Q (.o (.lst ((srtS ks).map D.str)))) :
    VC K G B (fun xs H Q => ∃ (a : Addr) (kvs : List (Key × V)) (ks : List Str), xs = [.ref a] ∧ Rd H a (.dK kvs) ∧ kvs.map (·.1) = ks.map Sum.inr ∧ ks.length < 64 ∧ ∀ ys p, ys.Perm ks → sortedS ys = true → H p = none → Q (.ref p) (upd H p (.lst (ys.map V.str)))) env [x] Q := vc1 fun σ R H r v hv Qh k => by
  obtain ⟨a, xs, rfl, h1, h2⟩ := dctD_at r hv hx
  refine ⟨a, xs, ks, rfl, h1, h2.keyl.trans hk, hl, fun ys p hp hs hn => ?_⟩
  obtain ⟨r2, v2⟩ := own_lst r hn (atl_strs ys)
  rw [← srtS_uniq hp (sorted_pw hs)] at q
  exact k _ R _ _ r2 (Same.refl R) v2 q
/-- dict(d) -/
theorem vc_dictD {x : XV} {ds : List (Key × D)} (hx : x.dctD = some ds) (q : Q (.o (.dct ds))) : VC K G B (fun xs H Q => ∃ (a : Addr) (kvs : List (Key × V)), xs = [.ref a] ∧ Rd H a (.dK kvs) ∧ ∀ p, H p = none → Q (.ref p) (upd H p (.dK kvs))) env [x] Q := vc1 fun σ R H r v hv Qh k => by
  obtain ⟨a, xs, rfl, h1, h2⟩ := dctD_at r hv hx
  refine ⟨a, xs, rfl, h1, fun p hp => ?_⟩
  obtain ⟨r2, v2⟩ := own_dct r hp h2
  exact k _ R _ _ r2 (Same.refl R) v2 q
/-! ### own lists and dicts change -/
/-- xs.reverse() -/
theorem vs_reverse {i : Nat} {ds : List D} (hd : env[i]? = some (.mu (.lst ds))) (q : nx (env.set i (.mu (.lst ds.reverse)))) : VS K G B (tDrop (tBM0 K "list" rReverse (tVar i))) env nx rt bk ct := fun σ R H r Z kn _ _ _ => by
  obtain ⟨a, y, h1, h2, h3, h4, h5⟩ := r.slots i _ hd
  obtain ⟨xs, rfl⟩ : ∃ xs, y = .lst xs := by cases y <;> first | exact ⟨_, rfl⟩ | exact h5.elim
  have hrev : ∀ {vs : List V} {es : List D}, AtL K R vs es → AtL K R vs.reverse es.reverse := fun {vs es} t => by
    induction t using AtL.rec (motive_1 := fun _ _ _ => True) (motive_3 := fun _ _ _ => True) with
    | nil => exact .nil
    | cons h t _ ih =>
      rw [List.reverse_cons, List.reverse_cons]
      exact ih.app (.cons h .nil)
    | _ => trivial
  exact ⟨.ref a, h1, .inl ⟨rfl, xs, .inl (.inl h4)⟩, a, xs, rfl, rfl, h4, kn _ σ R _ (r.mut hd h1 (y := .lst xs.reverse) (d' := .lst ds.reverse) (hrev h5)) (Same.refl R) q⟩
/-- d.clear() -/
theorem vs_dclear {i : Nat} {ds : List (Key × D)} (hd : env[i]? = some (.mu (.dct ds))) (q : nx (env.set i (.mu (.dct [])))) : VS K G B (tDrop (tBM0 K "dict" rDClear (tVar i))) env nx rt bk ct := fun σ R H r Z kn _ _ _ => by
  obtain ⟨a, y, h1, h2, h3, h4, h5⟩ := r.slots i _ hd
  obtain ⟨xs, rfl⟩ : ∃ xs, y = .dK xs := by cases y <;> first | exact ⟨_, rfl⟩ | exact h5.elim
  exact ⟨.ref a, h1, .inr (.inr (.inl ⟨rfl, .inl ⟨xs, h4⟩⟩)), a, xs, rfl, rfl, h4, kn _ σ R _ (r.mut hd h1 (y := .dK []) (d' := .dct []) AtD.nil) (Same.refl R) q⟩
abbrev rInsert : V → List V → Hp → VK → Prop := fun x vs H Q => ∃ (l : Addr) (xs : List V) (i : Int) (y : V), x = .ref l ∧ vs = [.int i, y] ∧ H l = some (.lst xs) ∧ xs.length < sizeLine ∧ 0 ≤ i ∧ i < 2 ^ 63 ∧ Q .non (upd H l (.lst (xs.take i.toNat ++ [y] ++ xs.drop i.toNat)))
/-- xs.insert(e, xs.pop(f)) -/
theorem vs_insPop {i : Nat} {te tf : TE} {ds : List D} (hd : env[i]? = some (.mu (.lst ds))) (h : VE K G B te env fun x => ∃ z, x = .p (.int z) ∧ 0 ≤ z ∧ z < 2 ^ 63 ∧ VE K G B tf env fun y => ∃ (j : Nat) (d : D), y = .p (.int j) ∧ ds[j]? = some d ∧ ds.length < 100000 ∧ nx (env.set i (.mu (.lst ((ds.eraseIdx j).take z.toNat ++ [d] ++ (ds.eraseIdx j).drop z.toNat))))) :
    VS K G B (tDrop (tBM K "list" rInsert (tVar i) (tCons te (tCons (tBM K "list" rPopAt (tVar i) (tCons tf tNil)) tNil)))) env nx rt bk ct := fun σ R H r Z kn _ _ _ => by
  obtain ⟨a, y, h1, h2, h3, h4, h5⟩ := r.slots i _ hd
  obtain ⟨xs, rfl⟩ : ∃ xs, y = .lst xs := by cases y <;> first | exact ⟨_, rfl⟩ | exact h5.elim
  refine ⟨.ref a, h1, .inl ⟨rfl, xs, .inl (.inl h4)⟩, h σ R H r _ fun w R0 H0 x0 r0 s0 hw ⟨z, e, z0, z1, h'⟩ => ?_⟩
  subst e
  cases hw
  obtain ⟨b, y, f1, f2, f3, f4, f5⟩ := r0.slots i _ hd
  rw [h1] at f1
  cases f1
  obtain ⟨zs, rfl⟩ : ∃ xs, y = .lst xs := by cases y <;> first | exact ⟨_, rfl⟩ | exact f5.elim
  refine ⟨.ref a, h1, .inl ⟨rfl, zs, .inl (.inl f4)⟩, h' σ R0 H0 r0 _ fun v R1 H1 x r1 s1 hv ⟨j, d, e, hj, hl, q⟩ => ?_⟩
  subst e
  cases hv
  obtain ⟨b, y, g1, g2, g3, g4, g5⟩ := r1.slots i _ hd
  rw [h1] at g1
  cases g1
  obtain ⟨ys, rfl⟩ : ∃ xs, y = .lst xs := by cases y <;> first | exact ⟨_, rfl⟩ | exact g5.elim
  have g6 : AtL K R1 ys ds := g5
  have hlt := (List.getElem?_eq_some_iff.mp hj).1
  obtain ⟨v, hv, hd'⟩ := g6.get hj
  have hlen : (ys.eraseIdx j).length < sizeLine := Nat.lt_of_le_of_lt (List.length_eraseIdx_le ys j) (by rw [g6.len]; exact Nat.lt_of_lt_of_le hl (by decide))
  refine ⟨a, ys, j, j, v, rfl, rfl, g4, by omega, by omega, by rw [g6.len, seqIndex_of (by omega) (by omega), Int.toNat_natCast], hv, ?_⟩
  refine ⟨a, ys.eraseIdx j, z, v, rfl, rfl, upd_same, hlen, z0, z1, ?_⟩
  have g7 := g6.erase j
  have e2 : ∀ (o1 o2 : HO), upd (upd H1 a o1) a o2 = upd H1 a o2 := fun o1 o2 => by
    funext b
    by_cases hb : b = a
    · rw [hb, upd_same, upd_same]
    · rw [upd_ne hb, upd_ne hb, upd_ne hb]
  rw [e2]
  exact kn _ σ R1 _ (r1.mut hd h1 (y := .lst ((ys.eraseIdx j).take z.toNat ++ [v] ++ (ys.eraseIdx j).drop z.toNat)) (d' := .lst ((ds.eraseIdx j).take z.toNat ++ [d] ++ (ds.eraseIdx j).drop z.toNat)) (((g7.take _).app (.cons hd' .nil)).app (g7.drop _))) (s0.trans s1) q
theorem insPop_perm {α : Type} {ds : List α} {j z : Nat} {d : α} (h : ds[j]? = some d) : ((ds.eraseIdx j).take z ++ [d] ++ (ds.eraseIdx j).drop z).Perm ds := by
  have p1 : ((ds.eraseIdx j).take z ++ [d] ++ (ds.eraseIdx j).drop z).Perm (d :: ds.eraseIdx j) := by
    rw [List.append_assoc]
    have := List.perm_middle (a := d) (l₁ := (ds.eraseIdx j).take z) (l₂ := (ds.eraseIdx j).drop z)
    rw [List.take_append_drop] at this
    exact this
  refine p1.trans ?_
  clear p1
  induction ds generalizing j with
  | nil => simp at h
  | cons x r ih =>
    cases j with
    | zero =>
      simp at h
      subst h
      exact .refl _
    | succ j =>
      have h' : r[j]? = some d := by simpa using h
      exact (List.Perm.swap x d _).trans (.cons x (ih h'))
/-- xs.append(ys.pop(f)) -/
theorem vs_appPop {i k : Nat} {tf : TE} {ds es : List D} (hik : i ≠ k) (hd : env[i]? = some (.mu (.lst ds))) (he : env[k]? = some (.mu (.lst es))) (h : VE K G B tf env fun y => ∃ (j : Nat) (d : D), y = .p (.int j) ∧ es[j]? = some d ∧ ds.length < 100000 ∧ es.length < 100000 ∧ nx ((env.set k (.mu (.lst (es.eraseIdx j)))).set i (.mu (.lst (ds ++ [d]))))) :
    VS K G B (tDrop (tBM K "list" rAppend (tVar i) (tCons (tBM K "list" rPopAt (tVar k) (tCons tf tNil)) tNil))) env nx rt bk ct := fun σ R H r Z kn _ _ _ => by
  obtain ⟨a, y, h1, h2, h3, h4, h5⟩ := r.slots i _ hd
  obtain ⟨xs, rfl⟩ : ∃ xs, y = .lst xs := by cases y <;> first | exact ⟨_, rfl⟩ | exact h5.elim
  obtain ⟨c, y, c1, c2, c3, c4, c5⟩ := r.slots k _ he
  obtain ⟨us, rfl⟩ : ∃ xs, y = .lst xs := by cases y <;> first | exact ⟨_, rfl⟩ | exact c5.elim
  refine ⟨.ref a, h1, .inl ⟨rfl, xs, .inl (.inl h4)⟩, .ref c, c1, .inl ⟨rfl, us, .inl (.inl c4)⟩, h σ R H r _ fun v R1 H1 x r1 s1 hv ⟨j, d, e, hj, hl, hle, q⟩ => ?_⟩
  subst e
  cases hv
  obtain ⟨b, y, g1, g2, g3, g4, g5⟩ := r1.slots k _ he
  rw [c1] at g1
  cases g1
  obtain ⟨ys, rfl⟩ : ∃ xs, y = .lst xs := by cases y <;> first | exact ⟨_, rfl⟩ | exact g5.elim
  have g6 : AtL K R1 ys es := g5
  have hlt := (List.getElem?_eq_some_iff.mp hj).1
  obtain ⟨v, hv, hd'⟩ := g6.get hj
  refine ⟨c, ys, j, j, v, rfl, rfl, g4, by omega, by omega, by rw [g6.len, seqIndex_of (by omega) (by omega), Int.toNat_natCast], hv, ?_⟩
  have r2 := r1.mut he c1 (y := .lst (ys.eraseIdx j)) (d' := .lst (es.eraseIdx j)) (g6.erase j)
  have hd2 : (env.set k (.mu (.lst (es.eraseIdx j))))[i]? = some (.mu (.lst ds)) := by rw [List.getElem?_set_ne (Ne.symm hik)]; exact hd
  obtain ⟨b, y, f1, f2, f3, f4, f5⟩ := r2.slots i _ hd2
  rw [h1] at f1
  cases f1
  obtain ⟨zs, rfl⟩ : ∃ xs, y = .lst xs := by cases y <;> first | exact ⟨_, rfl⟩ | exact f5.elim
  refine ⟨a, zs, v, rfl, rfl, f4, by rw [AtL.len f5]; exact Nat.lt_of_lt_of_le hl (by decide), ?_⟩
  exact kn _ σ R1 _ (r2.mut hd2 h1 (y := .lst (zs ++ [v])) (d' := .lst (ds ++ [d])) (AtL.app f5 (.cons hd' .nil))) s1 q
/-! ### a list or a tuple is walked -/
def iSeq (K : PySem.W.Frag) (te : TE) : TI := fun σ H Q => iList K te σ H Q ∨ iTup K te σ H Q
theorem pi_seq {X : Cx} {tg l : Expr} {tl : TE} (hl : PE X l tl) : PI X tg l (iSeq X.K tl) := ⟨fun pins s σ H Q I h => h.elim (fun h => (pi_list hl).run pins s σ H Q I h) fun h => (pi_tup hl).run pins s σ H Q I h⟩
theorem vi_seqL {te : TE} (h : VI K G B (iList K te) env Ql) : VI K G B (iSeq K te) env Ql := fun σ R H r Qh k => .inl (h σ R H r Qh k)
theorem vi_seqT {te : TE} (h : VI K G B (iTup K te) env Ql) : VI K G B (iSeq K te) env Ql := fun σ R H r Qh k => .inr (h σ R H r Qh k)
def seqB (b : Bool) (ds : List D) : D := if b then .lst ds else .tup ds
theorem vi_seqB {te : TE} (b : Bool) (ds : List D) (h : VE K G B te env fun x => x = .p (seqB b ds) ∧ Ql ds) : VI K G B (iSeq K te) env Ql := by
  cases b with
  | true => exact vi_seqL (vi_list fun σ R H r Qh k => h σ R H r Qh fun v R' H' x r' s' hv ⟨e, q⟩ => k v R' H' x r' s' hv (by subst e; exact fz_p ⟨ds, .inl rfl, q⟩))
  | false => exact vi_seqT (vi_tup fun σ R H r Qh k => h σ R H r Qh fun v R' H' x r' s' hv ⟨e, q⟩ => k v R' H' x r' s' hv (by subst e; exact ⟨ds, rfl, q⟩))
/-- a comprehension over typed items -/
theorem ve_lcT {α β : Type} {xs : List α} {g : α → D} {h : β → D} (f : α → Option β) {wi : TI} {tg : TG} {tt : TT} {te : TE} {vs : List Nat} (hu : ∀ v ∈ vs, env[v]? = some .u) (ho : TgOnly tg vs)
    (hI : VI K G B wi env fun items => items = xs.map g ∧ xs.length < 100000 ∧
      (∀ p (i : Nat) x, xs[i]? = some x → VG K G { B with pr := p :: B.pr } tg (.p (g x)) env fun e => Agree vs env e ∧ VT K G { B with pr := p :: B.pr } tt e fun b =>
        (b = true → VE K G { B with pr := p :: B.pr } te e fun v => v.fz fun v => ∃ y, v = .p (h y) ∧ f x = some y) ∧ (b = false → f x = none)) ∧ Q (.o (.lst ((xs.filterMap f).map h)))) :
    VE K G B (tLc wi tg tt te vs) env Q := ve_lc hu ho fun σ R H r Qh k => hI σ R H r _ fun J R1 H1 items r1 s1 wk ⟨ei, hl, hs, q⟩ => k J R1 H1 items r1 s1 wk (by
  subst ei
  refine ⟨by rw [List.length_map]; exact hl, fun j acc => acc = ((xs.take j).filterMap f).map h, rfl, fun p i d acc hi e => ?_, fun acc e => ?_⟩
  · subst e
    rw [List.getElem?_map] at hi
    cases hx : xs[i]? with
    | none => rw [hx] at hi; cases hi
    | some x =>
      rw [hx] at hi
      cases hi
      have et : xs.take (i + 1) = xs.take i ++ [x] := by rw [List.take_add_one, hx]; rfl
      refine fun σ R H r v hv Qh k => hs p i x hx σ R H r v hv Qh fun e σ' R' H' r' s' ⟨ha, q⟩ => k e σ' R' H' r' s' ⟨ha, fun σ R H r Qh k => q σ R H r Qh fun b R' H' r' s' q => k b R' H' r' s' ⟨fun hb => ve_mono (q.1 hb) fun v hv => fz_mono hv fun v ⟨y, e, hf⟩ => ⟨h y, e, ?_⟩, fun hb => ?_⟩⟩
      · show _ = List.map h (List.filterMap f (xs.take (i + 1)))
        rw [et, List.filterMap_append, List.map_append]
        simp [hf]
      · show _ = List.map h (List.filterMap f (xs.take (i + 1)))
        rw [et, List.filterMap_append]
        simp [q.2 hb]
  · subst e
    rw [List.length_map, List.take_length]
    exact q)
theorem fm_some {α β : Type} (f : α → β) (xs : List α) : xs.filterMap (fun x => some (f x)) = xs.map f := by
  rw [← List.filterMap_eq_map]
  rfl
theorem all_fm_true {α : Type} (xs : List α) : (xs.filterMap fun _ => some true).all id = true := by
  rw [fm_some]
  exact List.all_eq_true.mpr fun b hb => by
    obtain ⟨_, _, rfl⟩ := List.mem_map.mp hb
    rfl
theorem ints_cmpN (ns : List Int) : D.cmpN 60 (.lst (ns.map D.int)) = true := cmpN_ints 59 ns
theorem vo_eqI {x y : XV} {ns ms : List Int} (hx : x.dat = some (.lst (ns.map D.int))) (hy : y.dat = some (.lst (ms.map D.int))) (q : Q (.p (.bl (decide (ns = ms))))) : VO K G B (rEqD K) env x y Q := vo_eqN hx hy (ints_cmpN ns) (ints_cmpN ms) (by
  show Q (.p (.bl (PyData.eqv (D.py (.lst (ns.map D.int))) (D.py (.lst (ms.map D.int))))))
  rw [ints_eq]
  exact q)
theorem vo_neI {x y : XV} {ns ms : List Int} (hx : x.dat = some (.lst (ns.map D.int))) (hy : y.dat = some (.lst (ms.map D.int))) (q : Q (.p (.bl (!decide (ns = ms))))) : VO K G B (rNeD K) env x y Q := vo_neN hx hy (ints_cmpN ns) (ints_cmpN ms) (by
  show Q (.p (.bl (!PyData.eqv (D.py (.lst (ns.map D.int))) (D.py (.lst (ms.map D.int))))))
  rw [ints_eq]
  exact q)
/-! ### xs.index(z), texts -/
theorem eqV_str (y z : Str) : eqV (.str y) (.str z) = decide (y = z) := by
  show (y == z) = _
  by_cases h : y = z
  · rw [h]; simp
  · rw [decide_eq_false h]; exact beq_eq_false_iff_ne.mpr h
theorem idx_get {zs : List Str} {z : Str} (h : z ∈ zs) : zs[zs.idxOf z]? = some z ∧ ∀ m, m < zs.idxOf z → zs[m]? ≠ some z := by
  induction zs with
  | nil => cases h
  | cons a r ih =>
    rw [List.idxOf_cons]
    by_cases e : a = z
    · subst e
      simp
    · have hb : (a == z) = false := beq_eq_false_iff_ne.mpr e
      rw [hb]
      obtain ⟨h1, h2⟩ := ih ((List.mem_cons.mp h).resolve_left fun q => e q.symm)
      refine ⟨by simpa using h1, fun m hm => ?_⟩
      cases m with
      | zero => simpa using e
      | succ m =>
        have hm' : m < r.idxOf z := by
          have : m + 1 < r.idxOf z + 1 := hm
          omega
        simpa using h2 m hm'
theorem ve_index {to tz : TE} (h : VE K G B to env fun x => x.fz fun x => ∃ zs : List Str, x.seqL = some (zs.map D.str) ∧ VE K G B tz env fun y => ∃ z : Str, y = .p (.str z) ∧ z ∈ zs ∧ Q (.p (.int (zs.idxOf z : Nat)))) : VE K G B (tBM K "list" (rIndex K) to (tCons tz tNil)) env Q := fun σ R H r Qh k =>
  h σ R H r _ fun v R1 H1 x r1 s1 hv q => by
    obtain ⟨R2, x', r2, s2, hv2, ho, zs, hx, q2⟩ := hv.fz r1 q
    obtain ⟨a, xs, rfl, h1, h2⟩ := seqL_at r2 hv2 hx
    refine ⟨.inl ⟨rfl, xs, h1⟩, q2 σ R2 H1 r2 _ fun w R3 H3 y r3 s3 hw ⟨z, e, hz, q3⟩ => ?_⟩
    subst e
    cases hw
    obtain ⟨b, ys, e, g1, g2⟩ := seqL_at r3 (VAt.go (H' := H3) hv2 ho s3) hx
    cases e
    rw [AtL.strs_inv g2] at g1
    obtain ⟨i1, i2⟩ := idx_get hz
    refine ⟨a, _, .str z, zs.idxOf z, .str z, rfl, rfl, g1, rfl, flat_strs zs, by rw [List.getElem?_map, i1]; rfl, by rw [eqV_str, decide_eq_true rfl], fun m z' hm hz' => ?_, k _ R3 H3 (.p (.int _)) r3 ((s1.trans s2).trans s3) (.int _) q3⟩
    rw [List.getElem?_map] at hz'
    cases hzm : zs[m]? with
    | none => rw [hzm] at hz'; cases hz'
    | some u =>
      rw [hzm] at hz'
      cases hz'
      rw [eqV_str]
      exact decide_eq_false fun e => i2 m hm (by rw [hzm, e])
/-! ### dicts of whole numbers compared -/
theorem atD_ints : ∀ {t : List (Str × Int)} {xs : List (Key × V)}, AtD K R xs (t.map fun p => ((.inr p.1 : Key), D.int p.2)) → xs = t.map fun p => ((.inr p.1 : Key), V.int p.2)
  | [], _, h => by cases h; rfl
  | (a, i) :: r, _, h => by
    cases h with
    | cons h t =>
      cases h
      rw [atD_ints t]
      rfl
theorem dA_self {t : List (Str × Int)} (nd : (t.map (·.1)).Nodup) : ∀ p ∈ (t.map fun p => ((.inr p.1 : Key), V.int p.2)), valV (t.map fun p => ((.inr p.1 : Key), V.int p.2)) p.1 = some p.2 ∧ flatB p.2 = true := by
  intro p hp
  obtain ⟨q, hq, rfl⟩ := List.mem_map.mp hp
  refine ⟨?_, rfl⟩
  clear hp
  induction t with
  | nil => cases hq
  | cons a r ih =>
    rw [List.map_cons, List.nodup_cons] at nd
    unfold valV at ih ⊢
    rw [List.map_cons]
    rcases List.mem_cons.mp hq with rfl | hq
    · rw [List.find?_cons_of_pos (by simp)]
      rfl
    · have hne : ¬ a.1 = q.1 := fun z => nd.1 (by rw [z]; exact List.mem_map_of_mem (f := (·.1)) hq)
      rw [List.find?_cons_of_neg (by simp [hne])]
      exact ih nd.2 hq
theorem vo_neDS {x y : XV} {t : List (Str × Int)} (nd : (t.map (·.1)).Nodup) (hx : x.exD = some (t.map fun p => ((.inr p.1 : Key), D.int p.2))) (hy : y.exD = some (t.map fun p => ((.inr p.1 : Key), D.int p.2))) (q : Q (.p (.bl false))) : VO K G B rNeDA env x y Q := fun σ R H r v w hv hw Qh k => by
  obtain ⟨a, xs, rfl, h1, h2⟩ := exD_at r hv hx
  obtain ⟨b, ys, rfl, g1, g2⟩ := exD_at r hw hy
  rw [atD_ints h2] at h1
  rw [atD_ints g2] at g1
  exact ⟨a, b, _, _, rfl, rfl, h1, g1, rfl, dA_self nd, k _ R H (.p (.bl _)) r (Same.refl R) (.bl _) q⟩
theorem vo_eqDS {x y : XV} {t : List (Str × Int)} (nd : (t.map (·.1)).Nodup) (hx : x.exD = some (t.map fun p => ((.inr p.1 : Key), D.int p.2))) (hy : y.exD = some (t.map fun p => ((.inr p.1 : Key), D.int p.2))) (q : Q (.p (.bl true))) : VO K G B rEqDA env x y Q := fun σ R H r v w hv hw Qh k => by
  obtain ⟨a, xs, rfl, h1, h2⟩ := exD_at r hv hx
  obtain ⟨b, ys, rfl, g1, g2⟩ := exD_at r hw hy
  rw [atD_ints h2] at h1
  rw [atD_ints g2] at g1
  exact ⟨a, b, _, _, rfl, rfl, h1, g1, rfl, dA_self nd, k _ R H (.p (.bl _)) r (Same.refl R) (.bl _) q⟩
/-! ### a call to which slots' objects are lent, that tells a new list -/
theorem ve_callMO {α : Type} {args : α → List D} {pre : α → Prop} {post : α → D → Prop} {rs : α → Addr → Prop} {E : XK} {X : Addr → Prop} {t : TA} (L : Lets K G B E X)
    (h : VA K G B t env fun xs => ∃ x, XV.lent xs = some (args x) ∧ pre x ∧ (∀ C, rs x C → X C) ∧ ∀ d, post x d → D.flat d = true ∧ (∃ ds, d = .lst ds) ∧ Q (.o d)) : VE K G B (tCall (SpA K G true args pre post rs) [] E t) env Q := fun σ R H rp Qh k =>
  h σ R H rp _ fun vs R1 H1 xs r1 s1 hv _ ⟨x, e, hp, hr, q⟩ => by
    rw [List.append_nil]
    have key : ∀ R' H', Step K G (lend R1 H1 env σ) H1 R' H' → Step K G R1 H1 (cutMu R' env σ) H' := fun R' H' s => {
      same := fun b x e => by
        have nb : ¬ MuAt env σ b := fun z => by
          rw [(r1.mu z).1] at e
          cases e
        rw [cut_no nb]
        exact s.same b x ((lend_no nb).trans e)
      sub := fun b x e => by
        by_cases z : MuAt env σ b
        · rw [cut_mu z] at e
          cases e
        · rw [cut_no z] at e
          exact s.sub b x e
      kept := fun b y e n => s.kept b y e fun m z => by
        by_cases w : MuAt env σ b
        · rw [lend_mu w, e] at z
          cases z
          obtain ⟨_, y', h1, h2⟩ := r1.mu w
          rw [e] at h1
          cases h1
          exact ld_mk h2
        · rw [lend_no w] at z
          exact n m z
      out := fun b y e hd n => by
        by_cases w : MuAt env σ b
        · exact cut_mu w
        · rw [cut_no w]
          exact s.out b y e hd ((lend_no w).trans n) }
    have sub : Sub K G (lend R1 H1 env σ) H1 := fun b x e => by
      by_cases w : MuAt env σ b
      · rw [lend_mu w] at e
        obtain ⟨_, y, h1, h2⟩ := r1.mu w
        rw [e] at h1
        cases h1
        exact subAt_of e (ld_mk h2)
      · rw [lend_no w] at e
        exact r1.sub b x e
    have tb : TabIn G (lend R1 H1 env σ) := TabIn.go r1.tab' fun b z e => by
      rw [lend_no]
      · exact e
      · intro w
        rw [(r1.mu w).1] at e
        cases e
    refine ⟨lend R1 H1 env σ, x, ⟨sub, tb⟩, lent_at r1 e hv, hp, fun v R' H' d s ha hf hd => ?_, fun C R' H' s hc => L C (cutMu R' env σ) H' (r1.step.trans (key R' H' s)) (hr C hc)⟩
    obtain ⟨a, rfl, hn, hz⟩ := hf rfl
    obtain ⟨fl, ⟨ds, rfl⟩, q⟩ := q d hd
    have st := key R' H' s
    have hmu : ∀ b, MuAt env σ b → ∃ y, R' b = some y ∧ isLD y = true := fun b w => by
      obtain ⟨_, y, h1, h2⟩ := r1.mu w
      exact ⟨y, s.same b y ((lend_mu w).trans h1), h2⟩
    have na : ¬ MuAt env σ a := fun w => by
      obtain ⟨_, y, h1, _⟩ := r1.mu w
      rw [hn] at h1
      cases h1
    refine k (.ref a) (without (cutMu R' env σ) a) H' (.o (.lst ds)) (r1.goW st hn) (s1.trans (r1.sameW st hn)) ?_ q
    cases ha with
    | @lst a xs _ h1 h2 =>
      have h3 : AtL K (cutMu R' env σ) xs ds := h2.imp fun v d hm => at_cut hmu 9 (List.all_eq_true.mp fl d hm)
      have hc : cutMu R' env σ a = some (.lst xs) := by rw [cut_no na]; exact h1
      exact ⟨a, _, rfl, r1.fresh hn, without_same, s.sub.of h1 rfl, AtL.without hc rfl fl h3, r1.noslot hn, r1.nopr hn⟩
/-! ### pairs of whole numbers compared -/
theorem vo_ltT {ns ms : List Int} (q : Q (.p (.bl (HT.lexLt ns ms)))) : VO K G B (rLtT K) env (.p (.tup (ns.map D.int))) (.p (.tup (ms.map D.int))) Q := fun σ R H r v w hv hw Qh k => by
  obtain ⟨a, xs, rfl, h1, _, h2⟩ := tup_at r hv
  obtain ⟨b, ys, rfl, g1, _, g2⟩ := tup_at r hw
  rw [AtL.ints_inv h2] at h1
  rw [AtL.ints_inv g2] at g1
  exact ⟨a, b, ns, ms, rfl, rfl, h1, g1, k _ R H (.p (.bl _)) r (Same.refl R) (.bl _) q⟩
end
end VL

/-! ### == of tuples, lists and dicts, nested, that are equal -/
namespace PySem.SeqAt
open AutoSeq1 (wpAny_loadPart')
open MeetsSeq MeetsSeq2 MeetsSeq3 SeqRoads2
section
variable {prog : Program} {w : World}
theorem tup_all_eq (p q : Addr) (xs ys : Array Value) (k1 k2 : Nat) (m1 m2 : Option Addr) (z1 z2 : Array (Option Value)) (hs : xs.size = ys.size) :
    MeetsIn prog w (Builtin.«tuple.__eq__» ⟨[.ref p, .ref q], []⟩) fun A R s =>
      s.heap.get? p = some { cls := .type "tuple", dict := m1, data := .seq xs k1, slots := z1 } ∧ s.heap.get? q = some { cls := .type "tuple", dict := m2, data := .seq ys k2, slots := z2 } ∧
        (∀ j (a : j < xs.size) (b : j < ys.size), EqP prog w A.in1 s xs[j] ys[j] true) ∧ R (.ok (.ret (.bool true))) s := by
  rintro A R ⟨hp, g, d, tk, os⟩ ⟨ox, oy, each, fin⟩
  have sub := AutoSeq1.sub_tuple_tuple
  have zl : (xs.toList.zip ys.toList).length = xs.size := by simp [hs]
  wp_walk using wpAny_loadPart' ox, wpAny_loadPart' oy, wpAny_forIn_list _ (fun rest b s' => b.1 = none ∧ s' = ⟨hp, g, d, tk, os⟩ ∧ ∃ i, rest = (xs.toList.zip ys.toList).drop i) _
  case turn =>
    rintro ⟨y, x⟩ rest b s' ⟨hb, rfl, i, hz⟩
    have lt : i < (xs.toList.zip ys.toList).length := by
      refine Nat.lt_of_not_le fun h' => ?_
      rw [List.drop_of_length_le h'] at hz
      cases hz
    have l1 : i < xs.size := zl ▸ lt
    have l2 : i < ys.size := hs ▸ l1
    rw [List.drop_eq_getElem_cons lt] at hz
    injection hz with e1 e2
    have ey : y = xs[i] := by simpa using congrArg Prod.fst e1
    have ex : x = ys[i] := by simpa using congrArg Prod.snd e1
    subst ey ex
    refine wpAny_bind (each i l1 l2 _ _ ?_)
    wp_walk
    exact ⟨rfl, rfl, i + 1, e2⟩
  case fin =>
    rintro ⟨b1, b2⟩ s' ⟨hb, rfl, i, hz⟩
    simp only at hb
    subst hb
    wp_walk
    simpa [Builtin.Tuple.tupleCompareSizes, hs] using fin
  case h =>
    exact ⟨rfl, rfl, 0, rfl⟩
theorem tup_all_ne (p q : Addr) (xs ys : Array Value) (k1 k2 : Nat) (m1 m2 : Option Addr) (z1 z2 : Array (Option Value)) (hs : xs.size = ys.size) :
    MeetsIn prog w (Builtin.«tuple.__ne__» ⟨[.ref p, .ref q], []⟩) fun A R s =>
      s.heap.get? p = some { cls := .type "tuple", dict := m1, data := .seq xs k1, slots := z1 } ∧ s.heap.get? q = some { cls := .type "tuple", dict := m2, data := .seq ys k2, slots := z2 } ∧
        (∀ j (a : j < xs.size) (b : j < ys.size), EqP prog w A.in1 s xs[j] ys[j] true) ∧ R (.ok (.ret (.bool false))) s := by
  rintro A R ⟨hp, g, d, tk, os⟩ ⟨ox, oy, each, fin⟩
  have sub := AutoSeq1.sub_tuple_tuple
  have zl : (xs.toList.zip ys.toList).length = xs.size := by simp [hs]
  wp_walk using wpAny_loadPart' ox, wpAny_loadPart' oy, wpAny_forIn_list _ (fun rest b s' => b.1 = none ∧ s' = ⟨hp, g, d, tk, os⟩ ∧ ∃ i, rest = (xs.toList.zip ys.toList).drop i) _
  case turn =>
    rintro ⟨y, x⟩ rest b s' ⟨hb, rfl, i, hz⟩
    have lt : i < (xs.toList.zip ys.toList).length := by
      refine Nat.lt_of_not_le fun h' => ?_
      rw [List.drop_of_length_le h'] at hz
      cases hz
    have l1 : i < xs.size := zl ▸ lt
    have l2 : i < ys.size := hs ▸ l1
    rw [List.drop_eq_getElem_cons lt] at hz
    injection hz with e1 e2
    have ey : y = xs[i] := by simpa using congrArg Prod.fst e1
    have ex : x = ys[i] := by simpa using congrArg Prod.snd e1
    subst ey ex
    refine wpAny_bind (each i l1 l2 _ _ ?_)
    wp_walk
    exact ⟨rfl, rfl, i + 1, e2⟩
  case fin =>
    rintro ⟨b1, b2⟩ s' ⟨hb, rfl, i, hz⟩
    simp only at hb
    subst hb
    wp_walk
    simpa [Builtin.Tuple.tupleCompareSizes, hs] using fin
  case h =>
    exact ⟨rfl, rfl, 0, rfl⟩
theorem rcP_tup {A : Around} {s : Shared} {p q : Addr} {xs ys : Array Value} (h1 : s.heap.IsTuple p xs) (h2 : s.heap.IsTuple q ys) (hs : xs.size = ys.size) (hu : A.units < cLine)
    (each : ∀ j (a : j < xs.size) (b : j < ys.size), EqP prog w A.in1 s xs[j] ys[j] true) (E Q : Value → Shared → Prop) (fin : Q (.bool true) s) : wpAny (model prog w) A (richCompare .Eq (.ref p) (.ref q)) Q E s := by
  obtain ⟨⟨c1, m1, d1, z1⟩, o1, e1, k1, g1⟩ := id h1
  obtain ⟨⟨c2, m2, d2, z2⟩, o2, e2, k2, g2⟩ := id h2
  simp only at e1 g1 e2 g2
  subst e1 g1 e2 g2
  have t1 : s.TypeIs (.ref p) "tuple" := ⟨_, o1, rfl⟩
  exact wpAny_richCompare_same_room (op := .Eq) t1 ⟨_, o2, rfl⟩ F.slot_tuple_eq (call_meetsIn F.slot_tuple_eq t1 F.entry_tuple_eq (F.args_tuple_eq_2 _ _) (tup_all_eq p q xs ys k1 k2 m1 m2 z1 z2 hs) ⟨o1, o2, each, show Value.bool true ≠ Value.notImplemented ∧ Q (.bool true) s from ⟨(fun x => nomatch x), fin⟩⟩) hu
theorem rcP_tupN {A : Around} {s : Shared} {p q : Addr} {xs ys : Array Value} (h1 : s.heap.IsTuple p xs) (h2 : s.heap.IsTuple q ys) (hs : xs.size = ys.size) (hu : A.units < cLine)
    (each : ∀ j (a : j < xs.size) (b : j < ys.size), EqP prog w A.in1 s xs[j] ys[j] true) (E Q : Value → Shared → Prop) (fin : Q (.bool false) s) : wpAny (model prog w) A (richCompare .NotEq (.ref p) (.ref q)) Q E s := by
  obtain ⟨⟨c1, m1, d1, z1⟩, o1, e1, k1, g1⟩ := id h1
  obtain ⟨⟨c2, m2, d2, z2⟩, o2, e2, k2, g2⟩ := id h2
  simp only at e1 g1 e2 g2
  subst e1 g1 e2 g2
  have t1 : s.TypeIs (.ref p) "tuple" := ⟨_, o1, rfl⟩
  exact wpAny_richCompare_same_room (op := .NotEq) t1 ⟨_, o2, rfl⟩ F.slot_tuple_ne (call_meetsIn F.slot_tuple_ne t1 F.entry_tuple_ne (F.args_tuple_ne_2 _ _) (tup_all_ne p q xs ys k1 k2 m1 m2 z1 z2 hs) ⟨o1, o2, each, show Value.bool false ≠ Value.notImplemented ∧ Q (.bool false) s from ⟨(fun x => nomatch x), fin⟩⟩) hu
end
end PySem.SeqAt
namespace VL
open PySem PySem.Spec PyProof.Rows L2
/-- two tuples of equal items -/
def TupR (K : PySem.W.Frag) (H : Hp) (F : V → V → Prop) (x y : V) : Prop := ∃ a b xs ys, x = .ref a ∧ y = .ref b ∧ SqT K H a xs ∧ SqT K H b ys ∧ Paired F xs ys
/-- equal, of nesting below n, tuples too -/
def EqW (K : PySem.W.Frag) (H : Hp) : Nat → V → V → Prop
  | 0 => fun _ _ => False
  | n + 1 => fun x y => (x = y ∧ flatB x = true) ∨ EqR K H (EqW K H n) x y ∨ TupR K H (EqW K H n) x y
section
variable {X : Cx} {pins : List (Addr × Obj)} {σ : L2.St} {H : Hp} {s : Shared}
theorem tupR_items (I : Inv X pins σ H s) {F : V → V → Prop} {A : Around} (ih : ∀ x y v u, F x y → RelV x v → RelV y u → SeqAt.EqP X.prog X.w A s v u true) {x y : V} {v u : Value} (h : TupR X.K H F x y) (rx : RelV x v) (ry : RelV y u) :
    ∃ a b us ws, v = .ref a ∧ u = .ref b ∧ x = .ref a ∧ y = .ref b ∧ s.heap.IsTuple a us ∧ s.heap.IsTuple b ws ∧ us.size = ws.size ∧ ∀ j (p : j < us.size) (q : j < ws.size), SeqAt.EqP X.prog X.w A s us[j] ws[j] true := by
  obtain ⟨a, b, xs, ys, rfl, rfl, ha, hb, hp⟩ := h
  cases (show v = Value.ref a from rx)
  cases (show u = Value.ref b from ry)
  obtain ⟨us, r1, p1, _⟩ := I.tuple ha
  obtain ⟨ws, r2, p2, _⟩ := I.tuple hb
  refine ⟨a, b, us.toArray, ws.toArray, rfl, rfl, rfl, rfl, p1, p2, ?_, fun j p q => ?_⟩
  · rw [List.size_toArray, List.size_toArray, ← r1.length, ← r2.length]
    exact Paired.length hp
  · have k := items_run ih hp r1 r2 j (by simpa using p) (by simpa using q)
    simpa using k
theorem eqW_run (I : Inv X pins σ H s) : ∀ (n : Nat) (A : Around), A.units + n < cLine → ∀ (x y : V) (v u : Value), EqW X.K H n x y → RelV x v → RelV y u → SeqAt.EqP X.prog X.w A s v u true
  | 0, _, _, _, _, _, _, h, _, _ => (show False from h).elim
  | n + 1, A, hu, x, y, v, u, h, rx, ry => by
    have ih := eqW_run I n A.in1 (show A.units + 1 + n < cLine by omega)
    rcases h with ⟨rfl, f⟩ | h | h
    · exact (eqAt_same rx ry f).eqP
    · have step := eqR_run I (A := A) (by omega) ih h rx ry
      obtain ⟨a, b, rfl, rfl⟩ : ∃ a b, x = .ref a ∧ y = .ref b := by
        rcases h with ⟨a, b, _, _, e1, e2, _⟩ | ⟨a, b, _, _, e1, e2, _⟩ <;> exact ⟨a, b, e1, e2⟩
      cases (show v = Value.ref a from rx)
      cases (show u = Value.ref b from ry)
      by_cases e : a = b
      · rw [e]
        exact (SeqAt.EqAt.same _).eqP
      · exact SeqAt.eqP_refs e step
    · obtain ⟨a, b, us, ws, rfl, rfl, rfl, rfl, p1, p2, hs, each⟩ := tupR_items I ih h rx ry
      by_cases e : a = b
      · rw [e]
        exact (SeqAt.EqAt.same _).eqP
      · exact SeqAt.eqP_refs e fun E Q q => SeqAt.rcP_tup p1 p2 hs (by omega) each E Q q
end
/-- two tuples, two lists or two dicts that are equal -/
def rEqW (K : PySem.W.Frag) : R2 := fun x y H Q => (EqR K H (EqW K H 60) x y ∨ TupR K H (EqW K H 60) x y) ∧ Q (.bl true) H
def rNeW (K : PySem.W.Frag) : R2 := fun x y H Q => TupR K H (EqW K H 60) x y ∧ Q (.bl false) H
section
variable {X : Cx}
theorem op_eqW (hu : X.A.units + 64 < cLine) : OpR X (compareOp .Eq) (rEqW X.K) := by
  intro pins s σ H x y v u Q I rx ry h
  obtain ⟨h, q⟩ := h
  have ih := eqW_run I 60 X.A.in1 (show X.A.units + 1 + 60 < cLine by omega)
  rcases h with h | h
  · exact eqR_run I (A := X.A) (by omega) ih h rx ry _ _ ⟨.bl true, H, I, rfl, q⟩
  · obtain ⟨a, b, us, ws, rfl, rfl, rfl, rfl, p1, p2, hs, each⟩ := tupR_items I ih h rx ry
    exact SeqAt.rcP_tup p1 p2 hs (by omega) each _ _ ⟨.bl true, H, I, rfl, q⟩
theorem op_neW (hu : X.A.units + 64 < cLine) : OpR X (compareOp .NotEq) (rNeW X.K) := by
  intro pins s σ H x y v u Q I rx ry h
  obtain ⟨h, q⟩ := h
  have ih := eqW_run I 60 X.A.in1 (show X.A.units + 1 + 60 < cLine by omega)
  obtain ⟨a, b, us, ws, rfl, rfl, rfl, rfl, p1, p2, hs, each⟩ := tupR_items I ih h rx ry
  exact SeqAt.rcP_tupN p1 p2 hs (by omega) each _ _ ⟨.bl false, H, I, rfl, q⟩
/-- two dicts of rows that are equal, by != -/
def RowsEq (K : PySem.W.Frag) (H : Hp) (ls : List (Key × V)) (p : Key × V) : Prop := ∃ (c d : Addr) (ns : List Int), p.2 = .ref c ∧ SqL K H c (ns.map V.int) ∧ valV ls p.1 = some (.ref d) ∧ SqL K H d (ns.map V.int)
def rNeDL (K : PySem.W.Frag) : R2 := fun x y H Q => ∃ a b ks ls, x = .ref a ∧ y = .ref b ∧ H a = some (.dK ks) ∧ H b = some (.dK ls) ∧ ks.length = ls.length ∧ (∀ p ∈ ks, RowsEq K H ls p) ∧ Q (.bl false) H
theorem op_neDL (hu : X.A.units + 66 < cLine) : OpR X (compareOp .NotEq) (rNeDL X.K) := by
  intro pins s σ H x y v u Q I rx ry h
  obtain ⟨a, b, ks, ls, rfl, rfl, ea, eb, hlen, hp, q⟩ := h
  cases (show v = Value.ref a from rx)
  cases (show u = Value.ref b from ry)
  obtain ⟨_, ya, va, ra, da⟩ := (show ObjOk X.prog X.w H s.heap a (.dK ks) from I.hok a _ ea)
  obtain ⟨_, yb, vb, rb, db⟩ := (show ObjOk X.prog X.w H s.heap b (.dK ls) from I.hok b _ eb)
  have hits : ∀ {ks : List (Key × V)} {va : List (Key × Value)}, KV ks va → (∀ p ∈ ks, RowsEq X.K H ls p) → PySem.W.KeqHits X.A.in1 s vb va true := by
    intro ks va ra
    unfold KV at ra
    induction ra with
    | nil => exact fun _ => .nil
    | @cons p g ps qs hd tl ih =>
      intro hp
      obtain ⟨k1, k2⟩ := hd
      obtain ⟨c, d, ns, e1, e2, e3, e4⟩ := hp p List.mem_cons_self
      have rr : RelO (some (.ref d)) (valueAt vb p.1) := by rw [← e3]; exact rb.val p.1
      obtain ⟨y, hy, ry⟩ := rr.some_of
      obtain ⟨key, v⟩ := g
      have k1' : p.1 = key := k1
      rw [k1'] at hy
      rw [e1] at k2
      cases (show v = Value.ref c from k2)
      cases (show y = Value.ref d from ry)
      obtain ⟨us, r1, p1, _⟩ := I.list e2
      obtain ⟨ws, r2, p2, _⟩ := I.list e4
      have heq := PySem.W.keq_ints (A := X.A) p1.isList r1.ints p2.isList r2.ints (show X.A.units + 1 + 64 < cLine by omega)
      rw [decide_eq_true rfl] at heq
      show PySem.W.KeqHits X.A.in1 s vb ((key, Value.ref c) :: qs) (true && true)
      exact .hit hy heq (ih fun p' hm => hp p' (List.mem_cons_of_mem _ hm))
  have hl : va.length = vb.length := by rw [← ra.length, ← rb.length]; exact hlen
  exact PySem.W.keq_ne (knd := mixKind X.prog X.w) (r := true) ya yb da db (by omega) (fun _ => hits ra hp) ⟨.bl false, H, I, by rw [hl]; simp; rfl, q⟩
end
theorem units66 {A : Around} {k : Nat} (hr : Room k A) : A.units + 66 < cLine := by
  have := hr.un
  omega
/-! ### over plain data -/
def D.eqN : Nat → D → Prop
  | 0, d => match d with
    | .non => True
    | .bl _ => True
    | .int _ => True
    | .str _ => True
    | _ => False
  | n + 1, d => match d with
    | .non => True
    | .bl _ => True
    | .int _ => True
    | .str _ => True
    | .tup ds => ∀ x ∈ ds, D.eqN n x
    | .lst ds => ∀ x ∈ ds, D.eqN n x
    | .ro ds => ∀ x ∈ ds, D.eqN n x
    | .dct kvs => (kvs.map (·.1)).Nodup ∧ ∀ p ∈ kvs, D.eqN n p.2
    | _ => False
section
variable {K : PySem.W.Frag} {G : Gs} {B : Bs} {env : Vn} {σ : L2.St} {R R' R1 H H' H1 : Hp} {Q : XV → Prop}
theorem paired_at {F : V → V → Prop} : ∀ {ds : List D} {xs ys : List V}, (∀ d ∈ ds, ∀ v w, At K R v d → At K R w d → F v w) → AtL K R xs ds → AtL K R ys ds → Paired F xs ys
  | [], _, _, _, hx, hy => by
    cases hx
    cases hy
    exact .nil
  | d :: r, _, _, h, hx, hy => by
    cases hx with
    | cons a1 t1 =>
      cases hy with
      | cons a2 t2 => exact .cons (h d List.mem_cons_self _ _ a1 a2) (paired_at (fun e he => h e (List.mem_cons_of_mem _ he)) t1 t2)
theorem atD_hit : ∀ {ds : List (Key × D)} {ys : List (Key × V)} {k : Key} {d : D}, AtD K R ys ds → (ds.map (·.1)).Nodup → (k, d) ∈ ds → ∃ w, valV ys k = some w ∧ At K R w d
  | _, _, _, _, .nil, _, h => by cases h
  | _, _, k, d, @AtD.cons _ _ k0 v vs d0 ds h t, nd, hm => by
    rw [List.map_cons, List.nodup_cons] at nd
    rcases List.mem_cons.mp hm with e | hm
    · cases e
      exact ⟨v, by unfold valV; rw [List.find?_cons_of_pos (by simp)]; rfl, h⟩
    · have hne : ¬ k0 = k := fun z => nd.1 (by rw [z]; exact List.mem_map_of_mem (f := (·.1)) hm)
      obtain ⟨w, h1, h2⟩ := atD_hit t nd.2 hm
      refine ⟨w, ?_, h2⟩
      unfold valV at h1 ⊢
      rw [List.find?_cons_of_neg (by simpa using hne)]
      exact h1
theorem atD_mem : ∀ {xs : List (Key × V)} {ds : List (Key × D)}, AtD K R xs ds → ∀ p ∈ xs, ∃ d, (p.1, d) ∈ ds ∧ At K R p.2 d
  | _, _, .nil, _, h => by cases h
  | _, _, .cons h t, p, hm => by
    rcases List.mem_cons.mp hm with rfl | hm
    · exact ⟨_, List.mem_cons_self, h⟩
    · obtain ⟨d, h1, h2⟩ := atD_mem t p hm
      exact ⟨d, List.mem_cons_of_mem _ h1, h2⟩
theorem at_eqW (s : Sub K G R H) : ∀ (n : Nat) (d : D), D.eqN n d → ∀ v w, At K R v d → At K R w d → EqW K H (n + 1) v w := by
  have flat : ∀ {m : Nat} {v w : V}, v = w → flatB v = true → EqW K H (m + 1) v w := fun e f => .inl ⟨e, f⟩
  intro n
  induction n with
  | zero =>
    intro d h v w a b
    cases d <;> first
      | exact (show False from h).elim
      | (cases a; cases b; exact flat rfl rfl)
  | succ n ih =>
    intro d h v w a b
    cases d with
    | non => cases a; cases b; exact flat rfl rfl
    | bl _ => cases a; cases b; exact flat rfl rfl
    | int _ => cases a; cases b; exact flat rfl rfl
    | str _ => cases a; cases b; exact flat rfl rfl
    | tup ds =>
      cases a with
      | tup a1 a2 =>
        cases b with
        | tup b1 b2 => exact .inr (.inr ⟨_, _, _, _, rfl, rfl, s.t a1, s.t b1, paired_at (fun d hd => ih d (h d hd)) a2 b2⟩)
    | lst ds =>
      cases a with
      | lst a1 a2 =>
        cases b with
        | lst b1 b2 => exact .inr (.inl (.inl ⟨_, _, _, _, rfl, rfl, s.l (.inl (.inl a1)), s.l (.inl (.inl b1)), paired_at (fun d hd => ih d (h d hd)) a2 b2⟩))
    | ro ds =>
      cases a with
      | ro a1 a2 =>
        cases b with
        | ro b1 b2 => exact .inr (.inl (.inl ⟨_, _, _, _, rfl, rfl, s.l a1, s.l b1, paired_at (fun d hd => ih d (h d hd)) a2 b2⟩))
    | dct kvs =>
      obtain ⟨nd, hv⟩ := h
      cases a with
      | dct a1 a2 =>
        cases b with
        | dct b1 b2 =>
          refine .inr (.inl (.inr ⟨_, _, _, _, rfl, rfl, s.of a1 rfl, s.of b1 rfl, by rw [a2.len, b2.len], fun p hp => ?_⟩))
          obtain ⟨d, h1, h2⟩ := atD_mem a2 p hp
          obtain ⟨w, h3, h4⟩ := atD_hit b2 nd h1
          exact ⟨w, h3, ih d (hv (p.1, d) h1) _ _ h2 h4⟩
    | lkd _ _ => exact (show False from h).elim
    | st => exact (show False from h).elim
    | cm => exact (show False from h).elim
    | ptr _ => exact (show False from h).elim
    | ty _ => exact (show False from h).elim
theorem eqW_up {n m : Nat} (hnm : n ≤ m) {x y : V} (h : EqW K H n x y) : EqW K H m x y := by
  induction n generalizing m x y with
  | zero => exact (show False from h).elim
  | succ n ih =>
    cases m with
    | zero => omega
    | succ m =>
      have up : ∀ {xs ys : List V}, Paired (EqW K H n) xs ys → Paired (EqW K H m) xs ys := fun hp => by
        induction hp with
        | nil => exact .nil
        | cons h _ k => exact .cons (ih (by omega) h) k
      rcases h with h | (⟨a, b, xs, ys, e1, e2, h1, h2, hp⟩ | ⟨a, b, ks, ls, e1, e2, h1, h2, hl, hp⟩) | ⟨a, b, xs, ys, e1, e2, h1, h2, hp⟩
      · exact .inl h
      · exact .inr (.inl (.inl ⟨a, b, xs, ys, e1, e2, h1, h2, up hp⟩))
      · exact .inr (.inl (.inr ⟨a, b, ks, ls, e1, e2, h1, h2, hl, fun p q => by
          obtain ⟨u, h5, h6⟩ := hp p q
          exact ⟨u, h5, ih (by omega) h6⟩⟩))
      · exact .inr (.inr ⟨a, b, xs, ys, e1, e2, h1, h2, up hp⟩)
theorem vo_eqWT {ds : List D} {n : Nat} (hn : n ≤ 50) (h : ∀ d ∈ ds, D.eqN n d) (q : Q (.p (.bl true))) : VO K G B (rEqW K) env (.p (.tup ds)) (.p (.tup ds)) Q := fun σ R H r v w hv hw Qh k => by
  obtain ⟨a, xs, rfl, h1, _, h2⟩ := tup_at r hv
  obtain ⟨b, ys, rfl, g1, _, g2⟩ := tup_at r hw
  exact ⟨.inr ⟨a, b, xs, ys, rfl, rfl, h1, g1, paired_at (fun d hd v w hv hw => eqW_up (by omega) (at_eqW r.sub n d (h d hd) v w hv hw)) h2 g2⟩, k _ R H (.p (.bl _)) r (Same.refl R) (.bl _) q⟩
theorem vo_neWT {ds : List D} {n : Nat} (hn : n ≤ 50) (h : ∀ d ∈ ds, D.eqN n d) (q : Q (.p (.bl false))) : VO K G B (rNeW K) env (.p (.tup ds)) (.p (.tup ds)) Q := fun σ R H r v w hv hw Qh k => by
  obtain ⟨a, xs, rfl, h1, _, h2⟩ := tup_at r hv
  obtain ⟨b, ys, rfl, g1, _, g2⟩ := tup_at r hw
  exact ⟨⟨a, b, xs, ys, rfl, rfl, h1, g1, paired_at (fun d hd v w hv hw => eqW_up (by omega) (at_eqW r.sub n d (h d hd) v w hv hw)) h2 g2⟩, k _ R H (.p (.bl _)) r (Same.refl R) (.bl _) q⟩
/-- dicts of rows, each a slot's own or plain -/
theorem vo_neDL {x y : XV} {t : List (Str × List Int)} (nd : (t.map (·.1)).Nodup) (hx : x.exD = some (t.map fun p => ((.inr p.1 : Key), D.lst (p.2.map D.int)))) (hy : y.exD = some (t.map fun p => ((.inr p.1 : Key), D.lst (p.2.map D.int)))) (q : Q (.p (.bl false))) : VO K G B (rNeDL K) env x y Q := fun σ R H r v w hv hw Qh k => by
  obtain ⟨a, xs, rfl, h1, h2⟩ := exD_at r hv hx
  obtain ⟨b, ys, rfl, g1, g2⟩ := exD_at r hw hy
  refine ⟨a, b, xs, ys, rfl, rfl, h1, g1, by rw [h2.len, g2.len], fun p hp => ?_, k _ R H (.p (.bl _)) r (Same.refl R) (.bl _) q⟩
  obtain ⟨d, m1, m2⟩ := atD_mem h2 p hp
  obtain ⟨w, m3, m4⟩ := atD_hit g2 (by rw [List.map_map]; exact (List.pairwise_map.mpr ((List.pairwise_map.mp nd).imp fun h z => h (Sum.inr.inj z)))) m1
  obtain ⟨z, _, ez⟩ := List.mem_map.mp m1
  obtain ⟨_, ez2⟩ := Prod.mk.inj ez
  subst ez2
  have hint : ∀ v, At K R v (.lst (z.2.map D.int)) → ∃ c, v = .ref c ∧ SqL K H c (z.2.map V.int) := fun v hv => by
    cases hv with
    | lst e1 e2 =>
      rw [AtL.ints_inv e2] at e1
      exact ⟨_, rfl, r.sub.l (.inl (.inl e1))⟩
  obtain ⟨c, hc1, hc2⟩ := hint _ m2
  obtain ⟨d, hd1, hd2⟩ := hint _ m4
  exact ⟨c, d, z.2, hc1, hc2, by rw [m3, hd1], hd2⟩
end
end VL

namespace VL
open PySem PySem.Spec PyProof.Rows L2
section
variable {K : PySem.W.Frag} {G : Gs} {B : Bs} {env : Vn} {σ : L2.St} {R R' R1 H H' H1 : Hp} {Q : XV → Prop} {nx : Vn → Prop} {rt : XV → Prop} {bk ct : Vn → Prop}
/-- xs += ys -/
theorem vs_augExt {i : Nat} {te : TE} {ds : List D} (hd : env[i]? = some (.mu (.lst ds))) (h : VE K G B te env fun x => x.fz fun x => ∃ es, x = .p (.lst es) ∧ ds.length + es.length ≤ 100000 ∧ nx (env.set i (.mu (.lst (ds ++ es))))) :
    VS K G B (tAug i te rExt2) env nx rt bk ct := fun σ R H r Z kn _ _ _ => by
  obtain ⟨a, y, h1, _⟩ := r.slots i _ hd
  refine ⟨.ref a, h1, h σ R H r _ fun v R1 H1 x r1 s1 hv q => ?_⟩
  obtain ⟨R2, x', r2, s2, hv2, ho, es, rfl, hl, q2⟩ := hv.fz r1 q
  obtain ⟨b, y, g1, g2, g3, g4, g5⟩ := r2.slots i _ hd
  rw [h1] at g1
  cases g1
  obtain ⟨ys, rfl⟩ : ∃ xs, y = .lst xs := by cases y <;> first | exact ⟨_, rfl⟩ | exact g5.elim
  have g6 : AtL K R2 ys ds := g5
  cases hv2 with
  | @lst c zs _ e1 e2 =>
    refine ⟨a, c, ys, zs, rfl, rfl, g4, r2.sub.of e1 rfl, by rw [g6.len, e2.len]; exact Nat.le_trans hl (by decide), ?_⟩
    dsimp only
    rw [set_same h1]
    exact kn _ σ R2 _ (r2.mut hd h1 (y := .lst (ys ++ zs)) (d' := .lst (ds ++ es)) (g6.app e2)) (s1.trans s2) q2
/-- dicts of whole numbers of the same content, in any order -/
theorem dA_perm {t u : List (Str × Int)} (nd : (t.map (·.1)).Nodup) (hp : u.Perm t) : ∀ p ∈ (u.map fun p => ((.inr p.1 : Key), V.int p.2)), valV (t.map fun p => ((.inr p.1 : Key), V.int p.2)) p.1 = some p.2 ∧ flatB p.2 = true := fun p hm => dA_self nd p ((hp.map _).mem_iff.mp hm)
theorem vo_neDP {x y : XV} {t u : List (Str × Int)} (nd : (t.map (·.1)).Nodup) (hp : u.Perm t) (hx : x.exD = some (u.map fun p => ((.inr p.1 : Key), D.int p.2))) (hy : y.exD = some (t.map fun p => ((.inr p.1 : Key), D.int p.2))) (q : Q (.p (.bl false))) : VO K G B rNeDA env x y Q := fun σ R H r v w hv hw Qh k => by
  obtain ⟨a, xs, rfl, h1, h2⟩ := exD_at r hv hx
  obtain ⟨b, ys, rfl, g1, g2⟩ := exD_at r hw hy
  rw [atD_ints h2] at h1
  rw [atD_ints g2] at g1
  exact ⟨a, b, _, _, rfl, rfl, h1, g1, by rw [List.length_map, List.length_map, hp.length_eq], dA_perm nd hp, k _ R H (.p (.bl _)) r (Same.refl R) (.bl _) q⟩
theorem vo_eqDP {x y : XV} {t u : List (Str × Int)} (nd : (t.map (·.1)).Nodup) (hp : u.Perm t) (hx : x.exD = some (u.map fun p => ((.inr p.1 : Key), D.int p.2))) (hy : y.exD = some (t.map fun p => ((.inr p.1 : Key), D.int p.2))) (q : Q (.p (.bl true))) : VO K G B rEqDA env x y Q := fun σ R H r v w hv hw Qh k => by
  obtain ⟨a, xs, rfl, h1, h2⟩ := exD_at r hv hx
  obtain ⟨b, ys, rfl, g1, g2⟩ := exD_at r hw hy
  rw [atD_ints h2] at h1
  rw [atD_ints g2] at g1
  exact ⟨a, b, _, _, rfl, rfl, h1, g1, by rw [List.length_map, List.length_map, hp.length_eq], dA_perm nd hp, k _ R H (.p (.bl _)) r (Same.refl R) (.bl _) q⟩
/-- (z, d) == (z, e), dicts of the same content in any order -/
theorem vo_eqWP {z : Str} {t u : List (Key × D)} {n : Nat} (hn : n ≤ 40) (nd : (t.map (·.1)).Nodup) (hp : u.Perm t) (he : ∀ p ∈ t, D.eqN n p.2) (q : Q (.p (.bl true))) : VO K G B (rEqW K) env (.p (.tup [.str z, .dct u])) (.p (.tup [.str z, .dct t])) Q := fun σ R H r v w hv hw Qh k => by
  obtain ⟨a, xs, rfl, h1, _, h2⟩ := tup_at r hv
  obtain ⟨b, ys, rfl, g1, _, g2⟩ := tup_at r hw
  refine ⟨.inr ⟨a, b, xs, ys, rfl, rfl, h1, g1, ?_⟩, k _ R H (.p (.bl _)) r (Same.refl R) (.bl _) q⟩
  cases h2 with
  | cons c1 h2 =>
  cases h2 with
  | cons c2 h2 =>
  cases h2
  cases g2 with
  | cons d1 g2 =>
  cases g2 with
  | cons d2 g2 =>
  cases g2
  cases c1
  cases d1
  refine .cons (.inl ⟨rfl, rfl⟩) (.cons ?_ .nil)
  cases c2 with
  | dct a1 a2 =>
  cases d2 with
  | dct b1 b2 =>
  refine .inr (.inl (.inr ⟨_, _, _, _, rfl, rfl, r.sub.of a1 rfl, r.sub.of b1 rfl, by rw [a2.len, b2.len, hp.length_eq], fun p hpm => ?_⟩))
  obtain ⟨d, e1, e2⟩ := atD_mem a2 p hpm
  have hm := hp.mem_iff.mp e1
  obtain ⟨w, e3, e4⟩ := atD_hit b2 nd hm
  exact ⟨w, e3, eqW_up (m := 59) (show n + 1 ≤ 59 by omega) (at_eqW r.sub n d (he _ hm) _ _ e2 e4)⟩
end
end VL

namespace VL
open PySem PySem.Spec PyProof.Rows L2
section
variable {K : PySem.W.Frag} {G : Gs} {B : Bs} {env : Vn} {σ : L2.St} {R R' R1 H H' H1 : Hp} {Q : XV → Prop} {nx : Vn → Prop} {rt : XV → Prop} {bk ct : Vn → Prop}
/-! ### new lists are marked: drawn from, or what is on the way -/
theorem ve_st {te : TE} (h : VE K G B te env fun x => ∃ ns : List Int, x = .o (.lst (ns.map D.int)) ∧ G.good ns ∧ Q (.p .st)) : VE K G B te env Q := fun σ R H r Qh k =>
  h σ R H r Qh fun v R1 H1 x r1 s1 hv ⟨ns, e, g, q⟩ => by
    subst e
    obtain ⟨a, y, rfl, h0, hn, hy, hm, hs, hp⟩ := hv
    obtain ⟨xs, rfl⟩ : ∃ xs, y = .lst xs := by cases y <;> first | exact ⟨_, rfl⟩ | exact hm.elim
    have ex : xs = ns.map V.int := AtL.ints_inv hm
    subst ex
    exact k _ _ H1 (.p .st) (r1.put (o := .ext fun _ => False) ⟨ns, hy, g⟩ h0 hn hs hp) (s1.trans (same_take hn)) (.st upd_same) q
abbrev prD (p : Int × Int) : D := .tup [.int p.1, .int p.2]
theorem pr_at {v : V} {i j : Int} (h : At K R v (.tup [.int i, .int j])) : ∃ a, v = .ref a ∧ SqT K R a [.int i, .int j] := by
  cases h with
  | @tup a xs _ h1 h2 =>
  cases h2 with
  | cons c1 h2 =>
  cases h2 with
  | cons c2 h2 =>
  cases h2
  cases c1
  cases c2
  exact ⟨a, rfl, h1⟩
theorem prs_of (s : Sub K G R H) : ∀ {xs : List V} {ps : List (Int × Int)}, AtL K R xs (ps.map prD) → PrsAt K H xs ps
  | _, [], h => by cases h; exact .nil
  | _, p :: r, h => by
    cases h with
    | cons h t =>
      obtain ⟨a, rfl, h1⟩ := pr_at h
      exact .cons (s.t h1) (prs_of s t)
theorem ve_cm {te : TE} (h : VE K G B te env fun x => ∃ ps, x = .o (.lst (ps.map prD)) ∧ GoodP ps ∧ Q (.p .cm)) : VE K G B te env Q := fun σ R H r Qh k =>
  h σ R H r Qh fun v R1 H1 x r1 s1 hv ⟨ps, e, g, q⟩ => by
    subst e
    obtain ⟨a, y, rfl, h0, hn, hy, hm, hs, hp⟩ := hv
    obtain ⟨xs, rfl⟩ : ∃ xs, y = .lst xs := by cases y <;> first | exact ⟨_, rfl⟩ | exact hm.elim
    exact k _ _ H1 (.p .cm) (r1.put (o := .rng 0 0) ⟨xs, ps, hy, prs_of r1.sub hm, g⟩ h0 hn hs hp) (s1.trans (same_take hn)) (.cm upd_same) q
theorem cm_at {v : V} (h : At K R v .cm) : ∃ a i j, v = .ref a ∧ R a = some (.rng i j) := by
  cases h with
  | @cm a i j h => exact ⟨a, i, j, rfl, h⟩
/-- an object that never changes is learned of -/
theorem Rep.learn (r : Rep K G B env σ R H) {a : Addr} {o : HO} (h : H a = some o) (hx : isMk o = false) (ho : hard o = true) (hn : R a = none) : Rep K G B env σ (upd R a o) H where
  sub0 := r.sub0
  tab := r.tab
  step := {
    same := r.step.same.trans (same_take hn)
    sub := sub_put r.sub (subAt_of h hx)
    kept := r.step.kept
    out := fun b y e hd n => by
      have hb : b ≠ a := fun z => by
        subst z
        have := r.step.kept _ _ e (no_mk n)
        rw [h] at this
        cases this
        rw [ho] at hd
        cases hd
      rw [upd_ne hb]
      exact r.step.out b y e hd n }
  len := r.len
  dist := r.dist
  pr := fun q hq => by
    obtain ⟨h1, h2, h3, h4⟩ := r.pr q hq
    have hb : q.1 ≠ a := fun z => by
      rw [z, h] at h3
      have e := Option.some.inj h3
      have := hard_ld h4.1
      rw [← e, ho] at this
      cases this
    exact ⟨h1, by rw [upd_ne hb]; exact h2, h3, h4⟩
  slots := fun i sl q => by
    have hld : ∀ {b : Addr} {y : HO}, H b = some y → isLD y = true → b ≠ a := fun e l z => by
      rw [z, h] at e
      have e := Option.some.inj e
      have := hard_ld l
      rw [← e, ho] at this
      cases this
    have := r.slots i sl q
    cases sl with
    | u => trivial
    | p d =>
      obtain ⟨v, h1, h2⟩ := this
      exact ⟨v, h1, h2.same (same_take hn)⟩
    | mu d =>
      obtain ⟨b, y, h1, h2, h3, h4, h5⟩ := this
      exact ⟨b, y, h1, h2, by rw [upd_ne (hld h4 (mat_ld h5))]; exact h3, h4, h5.same (same_take hn)⟩
    | hp gs =>
      refine fun g hg => ?_
      obtain ⟨h2, h3, y, h4, h5⟩ := this g hg
      exact ⟨h2, by rw [upd_ne (hld h4 (mat_ld h5))]; exact h3, y, h4, h5.same (same_take hn)⟩
theorem Rep.knownH (r : Rep K G B env σ R H) {a : Addr} {o : HO} (h : H a = some o) (ho : hard o = true) {x : HO} (e : R a = some x) : isMk x = false ∧ x = o := by
  have q := r.sub a x e
  cases x with
  | ext φ => obtain ⟨ns, q, _⟩ := q; rw [h] at q; cases q; cases ho
  | tbl ps => obtain ⟨qs, q, _⟩ := q; rw [h] at q; cases q; cases ho
  | rng i j => obtain ⟨xs, ps, q, _⟩ := q; rw [h] at q; cases q; cases ho
  | _ =>
    have q : H a = some _ := q
    rw [h] at q
    exact ⟨rfl, (Option.some.inj q).symm⟩
theorem Rep.learnT (r : Rep K G B env σ R H) {a : Addr} {xs : List V} (h : SqT K H a xs) : ∃ R', Rep K G B env σ R' H ∧ Same R R' ∧ SqT K R' a xs := by
  have one : ∀ o, H a = some o → isMk o = false → hard o = true → ∃ R', Rep K G B env σ R' H ∧ Same R R' ∧ R' a = some o := fun o e hx ho => by
    cases q : R a with
    | none => exact ⟨_, r.learn e hx ho q, same_take q, upd_same⟩
    | some x =>
      obtain ⟨_, rfl⟩ := r.knownH e ho q
      exact ⟨R, r, Same.refl R, q⟩
  rcases h with (h | ⟨o, h⟩) | h
  · obtain ⟨R', r', s', e⟩ := one _ h rfl rfl
    exact ⟨R', r', s', .inl (.inl e)⟩
  · obtain ⟨R', r', s', e⟩ := one _ h rfl rfl
    exact ⟨R', r', s', .inl (.inr ⟨o, e⟩)⟩
  · exact ⟨R, r, Same.refl R, .inr h⟩
theorem Rep.learnP {xs : List V} {ps : List (Int × Int)} (h : PrsAt K H xs ps) : ∀ {R : Hp}, Rep K G B env σ R H → ∃ R', Rep K G B env σ R' H ∧ Same R R' ∧ AtL K R' xs (ps.map prD) := by
  induction h with
  | nil => exact fun r => ⟨_, r, Same.refl _, .nil⟩
  | cons h _ ih =>
    intro R r
    obtain ⟨R1, r1, s1, h1⟩ := r.learnT h
    obtain ⟨R2, r2, s2, h2⟩ := ih r1
    exact ⟨R2, r2, s1.trans s2, .cons (.tup (same_t s2 h1) (.cons (.int _) (.cons (.int _) .nil))) h2⟩
/-- tuple(what is on the way) -/
theorem vc_tupCm (q : ∀ ps, GoodP ps → Q (.p (.tup (ps.map prD)))) : VC K G B (fun xs H Q => ∃ p ys, xs = [.ref p] ∧ ((SqL K H p ys ∧ ∀ l, H l = none → Q (.ref l) (upd H l (.tup ys))) ∨ (SqT K H p ys ∧ Q (.ref p) H))) env [.p .cm] Q := vc1 fun σ R H r v hv Qh k => by
  obtain ⟨a, i, j, rfl, e⟩ := cm_at hv
  obtain ⟨xs, ps, h1, h2, g⟩ := r.sub a _ e
  refine ⟨a, xs, rfl, .inl ⟨.inl (.inl h1), fun l hl => ?_⟩⟩
  obtain ⟨R1, r1, s1, h3⟩ := Rep.learnP h2 r
  have hn := r1.sub.none hl
  exact k _ _ _ (.p (.tup _)) (r1.newP hl rfl) (s1.trans (same_take hn)) (.tup (.inl (.inl upd_same)) (h3.same (same_take hn))) (q ps g)
/-- what is on the way, has one more -/
theorem step_cm (s : Sub K G R H) {a : Addr} {i j : Int} (ha : R a = some (.rng i j)) {xs : List V} {ps : List (Int × Int)} (hp : PrsAt K H xs ps) (g : GoodP ps) : Step K G R H R (upd H a (.lst xs)) := by
  obtain ⟨ys, qs, q, _, _⟩ := s a _ ha
  exact {
    same := Same.refl R
    sub := fun b x e => by
      by_cases hb : b = a
      · subst hb
        rw [ha] at e
        cases e
        exact ⟨xs, ps, upd_same, hp.hard (hard_own q rfl), g⟩
      · exact subAt_go (s b x e) (upd_ne hb) (hard_own q rfl)
    kept := fun b y e hx => by
      have hb : b ≠ a := fun z => by
        subst z
        have := hx _ ha
        cases this
      rw [upd_ne hb]
      exact e
    out := fun _ _ _ _ n => n }
theorem PrsAt.app : ∀ {xs ys : List V} {ps qs : List (Int × Int)}, PrsAt K H xs ps → PrsAt K H ys qs → PrsAt K H (xs ++ ys) (ps ++ qs)
  | _, _, _, _, .nil, t => t
  | _, _, _, _, .cons h s, t => .cons h (PrsAt.app s t)
theorem PrsAt.len : ∀ {xs : List V} {ps : List (Int × Int)}, PrsAt K H xs ps → xs.length = ps.length
  | _, _, .nil => rfl
  | _, _, .cons _ t => congrArg (· + 1) (PrsAt.len t)
end
end VL

/-! ### list(reversed(a list)) -/
namespace VL
open PySem PySem.Spec PyProof.Rows L2
section
variable {prog : Program} {w : World} {A : Around} {E : Value → Shared → Prop} {s : Shared}
theorem extend_rev {R : PySem.Result → Shared → Prop} {it l : Addr} {items : Array Value} (hh : A.handled = none) (hit : s.heap.IsRevIter it l ((items.size : Int) - 1)) (hl : s.heap.IsList l items) (hne : l ≠ it) (hn : items.size ≤ sizeLine)
    (S : Addr) (hSi : S ≠ it) (hSl : S ≠ l) (res : Value) (c₀ : Nat) (hS : s.heap.get? S = some { cls := .type "list", data := .seq #[] c₀ })
    (hR : ∀ (h' : Heap) (tk : Nat) (acc : Array Value) (c : Nat), (∀ b o, b ≠ S → b ≠ it → s.heap.get? b = some o → h'.get? b = some o) → h'.get? S = some { cls := .type "list", dict := none, data := .seq acc c, slots := #[] } →
      ItemsOf (fun i v => items[items.size - 1 - i]? = some v) acc items.size → R (.ok (.ret res)) { s with heap := h', toks := tk }) :
    wpAny (model prog w) A.in1 (Builtin.List.listExtendWith (.ref S) (.ref it) res)
      (fun fin s' => match fin with | .done f => R (.ok f) s' | .again c' => c'.quiet = true ∧ codeAny (model prog w) A c' R s') (fun e s' => R (.error e) s') s := by
  have W := (Walks.listRev (prog := prog) (w := w) (A := A.in1) hh it l hne items).toS
  have hSf : S ∉ [it, l] := by simp only [List.mem_cons, List.not_mem_nil, or_false, not_or]; exact ⟨hSi, hSl⟩
  have hT : s.TypeIs (.ref it) "list_reverseiterator" := hit.typeIs
  have h1 : Builtin.List.listSameRef (.ref S) (.ref it) = false := by simp [Builtin.List.listSameRef, hSi]
  unfold Builtin.List.listExtendWith
  refine wpAny_bind (wpAny_typeOf hT ?_)
  rw [if_neg (by rw [h1]; decide)]
  refine wpAny_bind (wpAny_pyIter_revIter hit ?_)
  refine wpAny_bind (wpAny_holding ?_)
  unfold Builtin.List.listLengthHint
  refine wpAny_bind (wpAny_specialOf hT RT.nolen_lri ?_)
  show wpAny _ A.in1 (specialOf (Value.ref it) (Str.ofString "__length_hint__") >>= _) _ _ _
  refine wpAny_bind (wpAny_specialOf hT RT.hint_lri ?_)
  generalize hid : ("list_reverseiterator.__length_hint__" : String) = id0
  wp_delta
  rw [show splitId id0 = some ("list_reverseiterator", "__length_hint__") from by subst hid; decide +kernel]
  subst hid
  refine wpAny_bind (wpAny_isInstance (b := true) hT (by rw [isSubtype_type]; kernel_rfl) ?_)
  refine wpAny_pure ?_
  rw [if_neg (by decide)]
  have e0 : ((items.size : Nat) : Int) - 1 - ((0 : Nat) : Int) = (items.size : Int) - 1 := by omega
  refine wpAny_pure ⟨plainId_quiet PySem.F.plain_extend_loop _, codeAny_extend_loopS W hn _ hSf _ items.size 0 _ _ _ rfl (Nat.zero_le _) ⟨Nat.zero_le _, by rw [e0]; exact hit, hl⟩ hS (ItemsOf.nil _) fun s' acc' c' hm hS' hacc => ?_⟩
  rw [Moved.eq_with hm]
  refine hR s'.heap s'.toks acc' c' (fun b o hb hb2 e => hm.heap b o (fun hmem => ?_) e) hS' hacc
  rcases List.mem_cons.mp hmem with e' | hmem
  · exact hb e'
  · exact hb2 (List.mem_singleton.mp hmem)
theorem call_list_rev {it l : Addr} {items : Array Value} {Q : Value → Shared → Prop} (hh : A.handled = none) (hit : s.heap.IsRevIter it l ((items.size : Int) - 1)) (hl : s.heap.IsList l items) (hne : l ≠ it) (hn : items.size ≤ sizeLine)
    (hQ : ∀ (h' : Heap) (tk : Nat) (acc : Array Value) (c : Nat), (∀ b o, b ≠ it → s.heap.get? b = some o → h'.get? b = some o) → h'.get? s.heap.objs.size = some { cls := .type "list", dict := none, data := .seq acc c, slots := #[] } →
      ItemsOf (fun i v => items[items.size - 1 - i]? = some v) acc items.size → Q (.ref s.heap.objs.size) { s with heap := h', toks := tk }) :
    wpAny (model prog w) A (call (.type "list") [.ref it]) Q E s := by
  obtain ⟨oi, hoi, _⟩ := id hit
  obtain ⟨ol, hol, _⟩ := id hl
  have hSi : s.heap.objs.size ≠ it := Nat.ne_of_gt (Heap.lt_size hoi)
  have hSl : s.heap.objs.size ≠ l := Nat.ne_of_gt (Heap.lt_size hol)
  refine callType_codes (Q₁ := fun obj s₁ => obj = .ref s.heap.objs.size ∧ s₁ = { s with heap := s.heap.push { cls := .type "list", data := .seq #[] } }) PySem.F.called_list (PySem.F.typeCall_list_1 _) PySem.F.entry_list_init
    (code_list_new _ ⟨rfl, rfl⟩) fun obj s₁ h₁ => ?_
  obtain ⟨rfl, rfl⟩ := h₁
  have hS : (s.heap.push { cls := .type "list", data := .seq #[] }).get? s.heap.objs.size = some { cls := .type "list", data := .seq #[] } := Heap.get?_push_size _ rfl
  refine ⟨⟨_, hS, rfl⟩, PySem.F.args_list_init_2 _ _, ?_⟩
  show wpAny _ _ (do let old ← Builtin.List.listItems (.ref s.heap.objs.size); Builtin.List.listUpdate (.ref s.heap.objs.size) (fun _ => #[]); letGo old.toList.reverse; Builtin.List.listExtendWith (.ref s.heap.objs.size) (.ref it) .none) _ _ _
  refine wpAny_bind ?_
  unfold Builtin.List.listItems
  refine wpAny_bind (wpAny_seqItems hS rfl (wpAny_pure ?_))
  show wpAny _ _ (updateSeq s.heap.objs.size (fun _ => #[]) >>= fun _ => letGo (#[] : Array Value).toList.reverse >>= fun _ => Builtin.List.listExtendWith (.ref s.heap.objs.size) (.ref it) .none) _ _ _
  refine wpAny_bind (wpAny_updateSeq hS rfl ?_)
  have hS₂ := Heap.get?_update_self (Obj.mapSeq (fun _ => (#[] : Array Value))) hS rfl
  have oth : ∀ b o, b ≠ s.heap.objs.size → s.heap.get? b = some o → ((s.heap.push { cls := .type "list", data := .seq #[] }).update s.heap.objs.size (Obj.mapSeq (fun _ => (#[] : Array Value)))).get? b = some o :=
    fun b o hb e => (Heap.get?_update_other _ _ (Ne.symm hb)).trans (Heap.get?_push_of_some _ e)
  refine wpAny_bind (wpAny_letGo ?_)
  refine extend_rev (A := A.in1) hh (hit.at fun o e => oth it o hSi.symm e) (by obtain ⟨o, e, z⟩ := id hl; exact ⟨o, oth l o hSl.symm e, z⟩) hne hn s.heap.objs.size hSi hSl .none _ hS₂ fun h' tk acc c hk hS' hacc => ?_
  exact ⟨rfl, hQ h' tk acc c (fun b o hb e => hk b o (Nat.ne_of_lt (Heap.lt_size e)) hb (oth b o (Nat.ne_of_lt (Heap.lt_size e)) e)) hS' hacc⟩
end
def tLstRev (K : PySem.W.Frag) (te : TE) : TE := fun σ H Q => te σ H fun v H1 => ∃ (a : Addr) (xs : List V), v = .ref a ∧ SqL K H1 a xs ∧ ∀ q, H1 q = none → Q (.ref q) (upd H1 q (.lst xs.reverse))
section
variable {X : Cx}
theorem pe_lstRev {e : Expr} {te : TE} {p p2 pos pos2 : Pos} (hc : X.calm = true) (hg : Gl X "list") (hm : X.mg "list" = none) (hg2 : Gl X "reversed") (hm2 : X.mg "reversed" = none) (he : PE X e te)
    (hs : starEach [e] X.env = (false, eval e X.env) :: starEach [] X.env := by rfl)
    (hs2 : starEach [.Call (.Name "reversed" p2) [e] [] pos2] X.env = (false, eval (.Call (.Name "reversed" p2) [e] [] pos2) X.env) :: starEach [] X.env := by rfl) :
    PE X (.Call (.Name "list" p) [.Call (.Name "reversed" p2) [e] [] pos2] [] pos) (tLstRev X.K te) := by
  refine ⟨fun pins s σ H Q I h => ?_⟩
  refine Call_ (ld_blt I hg hm (show bootBuiltins "list" = some (.type "list") by decide +kernel) (PyProof.Rows.callWith_type1 (args_cons (Call_ (ld_blt I hg2 hm2 PyProof.Rows.boot_reversed (PyProof.Rows.callWith_type1 (args_cons (thn (he.run pins s σ H _ I h) fun u s1 ⟨v, H1, I1, r1, q1⟩ => args_nil ?_) hs) hs rfl))) hs2) hs2 rfl))
  obtain ⟨a, xs, ev, hq, q⟩ := q1
  subst ev
  obtain rfl : u = Value.ref a := r1
  obtain ⟨its, rv, p', hz⟩ := I1.list hq
  refine call_reversed_list p'.isList (args_nil ?_)
  have k0 : ∀ b o, s1.heap.get? b = some o → (s1.heap.push (revObj a ((its.toArray.size : Int) - 1))).get? b = some o := fun b o e => Heap.get?_push_of_some _ e
  have I2 : Inv X pins σ H1 { s1 with heap := s1.heap.push (revObj a ((its.toArray.size : Int) - 1)) } := I1.kept (t' := s1.toks) k0
  obtain ⟨f0, f1, f2, f3, f4, f5⟩ := I1.fpOk (H' := H1) (b := s1.heap.objs.size) (Nat.le_refl _) (I1.hok.fresh (Nat.le_refl _))
  have hl := p'.isList
  obtain ⟨ol, hol, _⟩ := id hl
  have hne : a ≠ s1.heap.objs.size := Nat.ne_of_lt (Heap.lt_size hol)
  have hn : its.toArray.size ≤ sizeLine := by rw [List.size_toArray, ← rv.length]; exact hz
  have hsz : (s1.heap.push (revObj a ((its.toArray.size : Int) - 1))).objs.size = s1.heap.objs.size + 1 := by simp [Heap.push]
  refine call_list_rev (s := { s1 with heap := s1.heap.push (revObj a ((its.toArray.size : Int) - 1)) }) (I1.ok.hd hc) ⟨_, Heap.get?_push_size _ rfl, rfl, rfl⟩ (hl.push _) hne hn fun h' tk acc c hk hS hi => ?_
  have hlt : s1.heap.objs.size < (s1.heap.push (revObj a ((its.toArray.size : Int) - 1))).objs.size := by rw [hsz]; exact Nat.lt_succ_self _
  have hT : (s1.heap.push (revObj a ((its.toArray.size : Int) - 1))).objs.size ≤ (s1.heap.push (revObj a ((its.toArray.size : Int) - 1))).objs.size := Nat.le_refl _
  have I3 := I2.turnedNew (t' := tk) (ch := [s1.heap.objs.size]) (T := (s1.heap.push (revObj a ((its.toArray.size : Int) - 1))).objs.size) (ob := .lst xs.reverse) (fun b o hb e => hk b o (fun z => hb (by rw [z]; exact List.mem_singleton.mpr rfl)) e)
    (fun b hb => by
      rw [List.mem_singleton.mp hb]
      exact ⟨f0, f1, f2, f3, f4, f5⟩) hT (show ObjOk X.prog X.w _ h' _ (.lst xs.reverse) from ⟨by rw [List.length_reverse]; exact hz, acc.toList, c, RT.vals_rev rv hi, by rw [hS]⟩)
  exact ⟨.ref _, _, I3, rfl, q _ (I2.hok.fresh hT)⟩
end
section
variable {K : PySem.W.Frag} {G : Gs} {B : Bs} {env : Vn} {σ : L2.St} {R R' R1 H H' H1 : Hp} {Q : XV → Prop} {nx : Vn → Prop} {rt : XV → Prop} {bk ct : Vn → Prop}
theorem AtL.rev : ∀ {vs : List V} {ds : List D}, AtL K R vs ds → AtL K R vs.reverse ds.reverse
  | _, _, .nil => .nil
  | _, _, .cons h t => by
    rw [List.reverse_cons, List.reverse_cons]
    exact (AtL.rev t).app (.cons h .nil)
/-- list(reversed(x)) -/
theorem ve_lstRev {te : TE} (h : VE K G B te env fun x => x.fz fun x => ∃ ds, x.seqL = some ds ∧ Q (.o (.lst ds.reverse))) : VE K G B (tLstRev K te) env Q := fun σ R H r Qh k =>
  h σ R H r _ fun v R1 H1 x r1 s1 hv q => by
    obtain ⟨R2, x', r2, s2, hv2, ho, ds, hx, q2⟩ := hv.fz r1 q
    obtain ⟨a, xs, rfl, h1, h2⟩ := seqL_at r2 hv2 hx
    refine ⟨a, xs, rfl, h1, fun p hp => ?_⟩
    obtain ⟨r3, v3⟩ := own_lst r2 hp h2.rev
    exact k _ R2 _ _ r3 (s1.trans s2) v3 q2
end
end VL

namespace VL
open PySem PySem.Spec PyProof.Rows L2
section
variable {K : PySem.W.Frag} {G : Gs} {B : Bs} {env : Vn} {σ : L2.St} {R R' R1 H H' H1 : Hp} {Q : XV → Prop} {nx : Vn → Prop} {rt : XV → Prop} {bk ct : Vn → Prop}
theorem vo_catE {x y : XV} {ds es fs : List D} (hx : x.exL = some ds) (hy : y.exL = some es) (e : ds ++ es = fs) (hl : fs.length ≤ 100000) (q : Q (.o (.lst fs))) : VO K G B rCat env x y Q := vo_cat hx hy (by rw [← List.length_append, e]; exact hl) (by rw [e]; exact q)
/-- a new empty list for what is on the way -/
theorem ve_cmE (q : Q (.p .cm)) : VE K G B (tLst tNil) env Q := ve_cm (ve_lst (va_nil ⟨[], rfl, Nat.zero_le _, [], rfl, ⟨Nat.zero_le _, fun p hp => (by cases hp)⟩, q⟩))
/-- if len(row[5]) < 12: row[5].append(pair) -/
theorem vs_cmAdd {i j : Nat} {row : List D} {a b : Int} (hi : env[i]? = some (.p (.lst row))) (h5 : row[5]? = some .cm) (hj : env[j]? = some (.p (.tup [.int a, .int b]))) (hab : (0 ≤ a ∧ a ≤ 400) ∧ (0 ≤ b ∧ b < 10 ^ 42)) (q : nx env) :
    VS K G B (tIfS (tTest (tOp (rI0 fun i j => V.bl (decide (i < j))) (tCB (fun xs H Q => ∃ p ys, xs = [V.ref p] ∧ (SqL K H p ys ∨ SqT K H p ys) ∧ Q (V.int ys.length) H) (tCons (tOp (rIxL K) (tVar i) (tC (V.int 5))) tNil)) (tC (V.int 12))))
      (tDrop (tBM K "list" rAppend (tOp (rIxL K) (tVar i) (tC (V.int 5))) (tCons (tVar j) tNil))) tNext) env nx rt bk ct := fun σ R H r Z kn kr kb kc => by
  obtain ⟨v, h1, h2⟩ := r.slots i _ hi
  obtain ⟨w, g1, g2⟩ := r.slots j _ hj
  obtain ⟨t, rfl, g3⟩ := pr_at g2
  cases h2 with
  | @lst c xs _ e1 e2 =>
  obtain ⟨u, e3, e4⟩ := e2.get h5
  obtain ⟨p, i', j', rfl, e5⟩ := cm_at e4
  obtain ⟨ys, ps, f1, f2, f3⟩ := r.sub p _ e5
  have hL : SqL K H c xs := .inl (.inl (r.sub.of e1 rfl))
  have hP : SqL K H p ys := .inl (.inl f1)
  have at5 : atI xs 5 = some (.ref p) := atI_nat (j := 5) e3
  refine ⟨.ref c, h1, c, xs, 5, .ref p, rfl, rfl, hL, at5, p, ys, rfl, .inl hP, _, _, rfl, rfl, _, rfl, ite2 (fun hc => ?_) (fun hc => ?_)⟩
  · have hlt : (ys.length : Int) < 12 := of_decide_eq_true hc
    have hl := f2.len
    refine ⟨.ref c, h1, c, xs, 5, .ref p, rfl, rfl, hL, at5, .inl ⟨rfl, ys, hP⟩, .ref t, g1, p, ys, .ref t, rfl, rfl, f1, Nat.lt_of_lt_of_le (show ys.length < 12 by omega) (by decide), ?_⟩
    refine kn env σ R _ (r.go (step_cm r.sub e5 (ps := ps ++ [(a, b)]) (f2.app (.cons (r.sub.t g3) .nil)) ⟨by rw [List.length_append]; show _ + 1 ≤ 12; omega, fun z hz => ?_⟩)) (Same.refl R) q
    rcases List.mem_append.mp hz with hz | hz
    · exact f3.2 z hz
    · cases List.mem_singleton.mp hz
      exact hab
  · exact kn env σ R H r (Same.refl R) q
end
end VL

namespace VL
open PySem PySem.Spec PyProof.Rows L2
section
variable {K : PySem.W.Frag} {G : Gs} {B : Bs} {env : Vn} {σ : L2.St} {R R' R1 H H' H1 : Hp} {Q : XV → Prop} {nx : Vn → Prop} {rt : XV → Prop} {bk ct : Vn → Prop} {Ql : List D → Prop}
/-- for k, x in d.items() -/
def itemsD (ds : List (Key × D)) : List D := ds.map fun p => .tup [keyD p.1, p.2]
theorem wk_items {a : Addr} {o : Obj} {xs : List (Key × V)} {ds : List (Key × D)} (hl : R a = some (.frz o (.dK xs))) (ha : AtD K R xs ds) : Wk K G B R (Iti a o xs) (itemsD ds) where
  go := fun B' e σ R' H' r s i d hi => by
    unfold itemsD at hi
    rw [List.getElem?_map] at hi
    cases he : ds[i]? with
    | none => rw [he] at hi; cases hi
    | some p =>
      obtain ⟨k, u⟩ := p
      rw [he] at hi
      cases hi
      obtain ⟨v, hv, hd⟩ := ha.get he
      have hH : H' a = some (.frz o (.dK xs)) := r.sub.of (s a _ hl) rfl
      refine ⟨⟨hH, (List.getElem?_eq_some_iff.mp hv).1⟩, ?_⟩
      rintro w H2 ⟨T, k', v', hk, rfl, hT, rfl⟩
      rw [hv] at hk
      cases hk
      have hn := r.sub.none hT
      exact ⟨_, r.newP hT (rfl), same_take hn, .tup (.inl (.inl upd_same)) (.cons (keyD_at k) (.cons ((hd.same s).same (same_take hn)) .nil))⟩
  stop := fun B' e σ R' H' r s => ⟨r.sub.of (s a _ hl) (rfl), by unfold itemsD; rw [List.length_map, ha.len]; exact Nat.le_refl _⟩
theorem vi_items {td : TE} (h : VE K G B td env fun x => x.fz fun x => ∃ a ds, x = .p (.lkd a ds) ∧ Ql (itemsD ds)) : VI K G B (iItems td) env Ql := fun σ R H r Qh k =>
  h σ R H r _ fun v R1 H1 x r1 s1 hv q => by
    obtain ⟨R2, x2, r2, s2, hv2, ho, a, ds, rfl, q2⟩ := hv.fz r1 q
    cases hv2 with
    | @lkd a o xs _ h1 h2 => exact ⟨_, o, xs, rfl, r2.sub.of h1 (rfl), k _ R2 H1 _ r2 (s1.trans s2) (wk_items h1 h2) q2⟩
end
end VL

/-! ### sorted(pairs of whole numbers) -/
namespace VL
open PySem PySem.Spec PyProof.Rows L2
def leP (p q : Int × Int) : Bool := decide (p.1 < q.1 ∨ (p.1 = q.1 ∧ p.2 ≤ q.2))
def srtP (ps : List (Int × Int)) : List (Int × Int) := ps.mergeSort leP
def rSrtP (K : PySem.W.Frag) : List V → Hp → VK → Prop := fun vs H Q => ∃ (a : Addr) (xs : List V) (ps : List (Int × Int)), vs = [V.ref a] ∧ SqL K H a xs ∧ PrsAt K H xs ps ∧
  ∀ ys p, PrsAt K H ys (srtP ps) → H p = none → Q (.ref p) (upd H p (.lst ys))
theorem leP_trans (a b c : Int × Int) (h : leP a b = true) (q : leP b c = true) : leP a c = true := by
  unfold leP at *
  rw [decide_eq_true_iff] at *
  omega
theorem leP_total (a b : Int × Int) : (leP a b || leP b a) = true := by
  unfold leP
  rw [Bool.or_eq_true, decide_eq_true_iff, decide_eq_true_iff]
  omega
theorem srtP_uniq {qs ps : List (Int × Int)} (p : qs.Perm ps) (h : qs.Pairwise fun a b => leP a b = true) : qs = srtP ps :=
  List.Perm.eq_of_pairwise (le := fun a b => leP a b = true) (fun a b _ _ h q => by
    unfold leP at h q
    rw [decide_eq_true_iff] at h q
    exact Prod.ext (by omega) (by omega)) h (List.pairwise_mergeSort leP_trans leP_total ps) (p.trans (List.mergeSort_perm ps leP).symm)
theorem PrsAt.of {K : PySem.W.Frag} {H : Hp} {k : V → Int × Int} : ∀ {xs : List V}, (∀ x ∈ xs, ∃ t, x = V.ref t ∧ SqT K H t [.int (k x).1, .int (k x).2]) → PrsAt K H xs (xs.map k)
  | [], _ => .nil
  | x :: r, h => by
    obtain ⟨t, e, ht⟩ := h x List.mem_cons_self
    rw [List.map_cons]
    have := PrsAt.of (xs := r) fun y hy => h y (List.mem_cons_of_mem _ hy)
    subst e
    exact .cons ht this
open Classical in
/-- what pair an object is -/
noncomputable def kOf (K : PySem.W.Frag) (H : Hp) (x : V) : Int × Int := if h : ∃ p : Int × Int, ∃ t, x = V.ref t ∧ SqT K H t [.int p.1, .int p.2] then h.choose else (0, 0)
theorem kOf_spec {K : PySem.W.Frag} {H : Hp} {x : V} (h : ∃ p : Int × Int, ∃ t, x = V.ref t ∧ SqT K H t [.int p.1, .int p.2]) : ∃ t, x = V.ref t ∧ SqT K H t [.int (kOf K H x).1, .int (kOf K H x).2] := by
  unfold kOf
  rw [dif_pos h]
  exact h.choose_spec
section
variable {X : Cx}
theorem prs_k {pins : List (Addr × Obj)} {σ : L2.St} {H : Hp} {s : Shared} (I : L2.Inv X pins σ H s) : ∀ {xs : List V} {ps : List (Int × Int)}, PrsAt X.K H xs ps → ps = xs.map (kOf X.K H) ∧ ∀ x ∈ xs, ∃ t, x = V.ref t ∧ SqT X.K H t [.int (kOf X.K H x).1, .int (kOf X.K H x).2]
  | _, _, .nil => ⟨rfl, fun x hx => by cases hx⟩
  | _, _, @PrsAt.cons _ _ a xs p ps h t => by
    obtain ⟨e1, e2⟩ := prs_k I t
    have sp := kOf_spec (K := X.K) (H := H) (x := V.ref a) ⟨p, a, rfl, h⟩
    have ep : kOf X.K H (.ref a) = p := by
      obtain ⟨t', et, ht⟩ := sp
      cases et
      have := I.tuple_inj ht h
      exact Prod.ext (by injection this with h1 _; injection h1) (by injection this with _ h2; injection h2 with h2 _; injection h2)
    refine ⟨by rw [List.map_cons, ← e1, ep], fun x hx => ?_⟩
    rcases List.mem_cons.mp hx with rfl | hx
    · exact sp
    · exact e2 x hx
theorem cr_srtP : CallR X (.builtin "sorted") (rSrtP X.K) := by
  intro pins s σ H vs us Q I r h
  obtain ⟨a, xs, ps, rfl, hs, hp, q⟩ := h
  obtain ⟨ek, hx⟩ := prs_k I hp
  obtain ⟨k, hk⟩ : ∃ k, k = kOf X.K H := ⟨_, rfl⟩
  rw [← hk] at ek hx
  obtain ⟨its, rv, hl, hz⟩ := I.list hs
  obtain ⟨u, rfl, ru⟩ := vals1 r
  obtain rfl : u = Value.ref a := ru
  obtain ⟨e1, e2⟩ := refs_back rv fun x m => by
    obtain ⟨t, e, _⟩ := hx x m
    exact ⟨t, e⟩
  refine SrtO.sorted_pairsO (k := fun u => k (backV u)) hl.isList (by rw [← rv.length]; exact hz) (fun v hv => ?_) fun h' d out h1 h2 kp hd hn => ?_
  · obtain ⟨t, rfl⟩ := e2 v hv
    have hm : V.ref t ∈ xs := by rw [e1]; exact List.mem_map.mpr ⟨_, hv, rfl⟩
    obtain ⟨t', e, ht⟩ := hx _ hm
    cases e
    obtain ⟨its2, r2, ⟨o, ho, hc, n, hd⟩, _⟩ := I.tuple ht
    obtain ⟨u1, u2, rfl, ri, rj⟩ := vals2 r2
    obtain ⟨t1, rfl⟩ := ri
    obtain ⟨t2, rfl⟩ := rj
    exact ⟨t, o, t1, t2, n, rfl, ho, hc, hd⟩
  · have h3 : ∀ u ∈ out, ∃ a, u = Value.ref a := fun u hu => e2 u (h2.perm.mem_iff.mp hu)
    obtain ⟨n, hn⟩ := hn
    have hb : SrtO.Stb (ltP k) (out.map backV) xs := by
      rw [e1]
      exact SrtO.Stb.map (ltP_swo k) backV h2
    have hsd := SrtO.srtd_map (f := backV) (lt := ltP k) h1
    refine ⟨.ref d, upd H d (.lst (out.map backV)), I.laid (t' := s.toks) kp hd ⟨?_, out, n, vals_back h3, hn⟩, rfl, q _ d ?_ (I.hok.fresh hd)⟩
    · rw [hb.len]
      exact hz
    · have hq : ((out.map backV).map k) = srtP ps := by
        refine srtP_uniq (by rw [ek]; exact hb.perm.map k) ?_
        refine List.pairwise_map.mpr (List.Pairwise.imp (fun {x y} hxy => ?_) hsd)
        have := SrtO.lexB_no.mp hxy
        unfold leP
        rw [decide_eq_true_iff]
        omega
      rw [← hq]
      exact PrsAt.of fun x hx' => hx x (hb.perm.mem_iff.mp hx')
end
section
variable {K : PySem.W.Frag} {G : Gs} {B : Bs} {env : Vn} {σ : L2.St} {R R' R1 H H' H1 : Hp} {Q : XV → Prop}
theorem vc_sortedP {x : XV} {ps : List (Int × Int)} (hx : x.seqL = some (ps.map prD)) (q : Q (.o (.lst ((srtP ps).map prD)))) : VC K G B (rSrtP K) env [x] Q := vc1 fun σ R H r v hv Qh k => by
  obtain ⟨a, xs, rfl, h1, h2⟩ := seqL_at r hv hx
  refine ⟨a, xs, ps, rfl, h1, prs_of r.sub h2, fun ys p hp hn => ?_⟩
  obtain ⟨R1, r1, s1, h3⟩ := Rep.learnP hp r
  obtain ⟨r2, v2⟩ := own_lst r1 hn h3
  exact k _ R1 _ _ r2 s1 v2 q
end
end VL

/-! sorted(d.keys()) -/
namespace VL
open PySem L2 PySem.Spec PyProof.Rows
def tSrtKeys (td : TE) : TE := fun σ H Q => td σ H fun v H1 => ∃ (a : Addr) (kvs : List (Key × V)) (ks : List Str), v = .ref a ∧ Rd H1 a (.dK kvs) ∧ kvs.map (·.1) = ks.map Sum.inr ∧ ks.length < 64 ∧
  ∀ ys p, ys.Perm ks → sortedS ys = true → H1 p = none → Q (.ref p) (upd H1 p (.lst (ys.map V.str)))
section
variable {X : Cx}
theorem pe_srtKeys {e : Expr} {td : TE} {p apos cpos pos : Pos} (hcalm : X.calm = true) (hg : Gl X "sorted") (hm : X.mg "sorted" = none) (he : PE X e td)
    (hbase : attributeBase e "keys" X.env (eval e X.env) = eval e X.env := by rfl) (hline : (apos.endLine == cpos.line) = true := by rfl)
    (hs : starEach [.Call (.Attribute e "keys" apos) [] [] cpos] X.env = (false, eval (.Call (.Attribute e "keys" apos) [] [] cpos) X.env) :: starEach [] X.env := by rfl) :
    PE X (.Call (.Name "sorted" p) [.Call (.Attribute e "keys" apos) [] [] cpos] [] pos) (tSrtKeys td) := by
  refine ⟨fun pins s σ H Q I h => ?_⟩
  refine wpAny_Call_Name_kw (ld_blt I hg hm (show bootBuiltins "sorted" = some (.builtin "sorted") by decide +kernel) (PyProof.Rows.callWith_builtin1 (args_cons ?_ hs) hs rfl))
  refine wpAny_Call_method (T := "dict") (id := "dict.keys") hbase rfl hline F.plainAttrs_dict F.slot_dict_keys F.type_dict_keys (thn (he.run pins s σ H _ I h) fun u s1 ⟨x, H1, I1, rx, q1⟩ => ?_)
  obtain ⟨a, kvs, ks, ex, hd, hks, h64, q⟩ := q1
  subst ex
  obtain rfl : u = Value.ref a := rx
  obtain ⟨z, lo, vs, rel, dd⟩ := dk_rd I1.hok hd
  obtain ⟨ep, hat⟩ := dd.dictAt
  have hkeys : vs.map (·.1) = ks.map Sum.inr := rel.keys.symm.trans hks
  have hl : vs.length = ks.length := by
    have e := congrArg List.length hkeys
    rw [List.length_map, List.length_map] at e
    exact e
  have h16 : vs.length ≤ sizeLine := by rw [hl, sizeLine_eq]; omega
  refine ⟨hat.dictOf.typeIs, hat.dictOf.mapOf.noDict, ?_⟩
  have I2 : Inv X pins σ H1 { s1 with heap := s1.heap.push { cls := .type "dict_keys", data := .fields #[.ref a] } } := I1.kept (t' := s1.toks) fun b ob q => Heap.get?_push_of_some _ q
  refine (show wpAny _ _ (callWith cpos (.builtin "dict.keys") [.ref a] [] []) _ X.xe s1 from method_meetsIn F.slot_dict_keys F.entry_dict_keys rfl (PySem.evalArgs_none ⟨rfl, hat.dictOf.typeIs, F.args_dict_keys_1 _, _, PySem.W.kdl_meets_keys (mixKind X.prog X.w) a lo, ⟨vs, hat.dictOf⟩, ?_⟩))
  refine args_nil ?_
  refine Calls.call_function_entry PyProof.Rows.kind_sorted PyProof.Rows.plain_sorted PyProof.Rows.entry_sorted (PyProof.Rows.args_sorted1 _) ?_
  unfold Builtin.«sorted»
  refine wpAny_bind (m := checkCount "sorted" 1 1 _) (wpAny_pure ?_)
  refine wpAny_bind (PySem.W.kdu_collect (A := X.A.in1) (PySem.W.kdl_keys (knd := mixKind X.prog X.w) (kvs := vs) (ep := ep)) (I1.ok.hd hcalm) ⟨⟨_, Heap.get?_push_size _ rfl, rfl, rfl⟩, hat.push _⟩ h16 fun h' tk acc hk hacc => ?_)
  have hal : acc.toList.length = ks.length := by rw [Array.length_toList, hacc.1, hl]
  have hS : StrsAre acc.toList ks := strs_at hal fun j v e => by
    obtain ⟨k, x, e1, e2⟩ := hacc.2 j v (by rw [← Array.getElem?_toList]; exact e)
    have e3 : (vs.map (·.1))[j]? = some k := by rw [List.getElem?_map, e1]; all_goals rfl
    rw [hkeys, List.getElem?_map] at e3
    cases e4 : ks[j]? with
    | none => rw [e4] at e3; cases e3
    | some y =>
      rw [e4] at e3
      have e5 : Sum.inr y = k := Option.some.inj e3
      subst e5
      obtain ⟨t, ev⟩ := Value.isStrOf_shape (x := y) (v := v) e2
      exact ⟨y, t, rfl, ev⟩
  have I3 : Inv X pins σ H1 { s1 with heap := h', toks := tk } := I2.kept hk
  refine wpAny_bind (wpAny_newList ?_ (by rw [hal, sizeLine_eq]; omega))
  have hoL : (h'.push (seqObj "list" acc.toList.toArray 0)).get? h'.objs.size = some (seqObj "list" acc.toList.toArray 0) := Heap.get?_push_size _ rfl
  show wpAny _ _ _ _ _ { s1 with heap := h'.push (seqObj "list" acc.toList.toArray 0), toks := tk }
  refine wpAny_bind (wpAny_holding (wpAny_call_entry PyProof.Rows.slot_list_sort ⟨_, hoL, rfl⟩ PyProof.Rows.entry_list_sort
    (list_sort_treeK strKind_oneLt (s := { s1 with heap := h'.push (seqObj "list" acc.toList.toArray 0), toks := tk }) hoL hS.keysOf (fun v₁ v₂ rest e => keyKind_strs (by rw [← e]; exact hS)) (by rw [hal]; exact h64) fun st' hp hs => ⟨_, rfl, ?_⟩)
    (PyProof.Rows.args_list_sort _)))
  obtain ⟨ys, g1, g2, g3⟩ := sorted_out_str hS hp hs
  obtain ⟨e', he'⟩ := PyProof.Rows.sortedHeap_at (vs := acc.toList) (out := (arrOf st').map (·.2)) hoL
  have hlen : (ys.map V.str).length ≤ sizeLine := by
    rw [List.length_map, g2.length_eq]
    exact Nat.le_trans (Nat.le_of_lt h64) (by decide)
  refine wpAny_pure ⟨_, rfl, .ref h'.objs.size, upd H1 h'.objs.size (.lst (ys.map V.str)), I3.laid (t' := tk) (fun b u e => ?_) (Nat.le_refl _)
    (show ObjOk X.prog X.w _ _ _ (.lst (ys.map V.str)) from ⟨hlen, ((arrOf st').map (·.2)).toList, e', vals_of_strs g1, by rw [Array.toArray_toList]; exact he'⟩), rfl, q ys _ g2 g3 (I3.hok.fresh (Nat.le_refl _))⟩
  have hb : b < h'.objs.size := Heap.lt_size e
  rw [PyProof.Rows.sortedHeap_old (Nat.ne_of_lt hb) (by rw [size_push']; exact Nat.lt_succ_of_lt hb)]
  exact Heap.get?_push_of_some _ e
end
section
variable {K : PySem.W.Frag} {G : Gs} {B : Bs} {env : Vn} {σ : L2.St} {R R' R1 H H' H1 : Hp} {Q : XV → Prop}
theorem ve_srtKeys {te : TE} (h : VE K G B te env fun x => x.fz fun x => ∃ ds ks, x.dctD = some ds ∧ ds.map (·.1) = ks.map Sum.inr ∧ ks.length < 64 ∧ Q (.o (.lst ((srtS ks).map D.str)))) : VE K G B (tSrtKeys te) env Q := fun σ R H r Qh k =>
  h σ R H r _ fun v R1 H1 x r1 s1 hv q => by
    obtain ⟨R2, x', r2, s2, hv2, ho, ds, ks, hx, hk, hl, q2⟩ := hv.fz r1 q
    obtain ⟨a, xs, rfl, h1, h2⟩ := dctD_at r2 hv2 hx
    refine ⟨a, xs, ks, rfl, h1, h2.keyl.trans hk, hl, fun ys p hp hs hn => ?_⟩
    obtain ⟨r3, v3⟩ := own_lst r2 hn (atl_strs ys)
    rw [← srtS_uniq hp (sorted_pw hs)] at q2
    exact k _ R2 _ _ r3 (s1.trans s2) v3 q2
end
end VL
namespace VL
open PySem L2
section
variable {K : PySem.W.Frag} {G : Gs} {B : Bs} {env : Vn} {σ : L2.St} {R R' R1 H H' H1 : Hp} {Q : XV → Prop}
/-- d.get(k, x) -/
theorem ve_dget2 {td ty tx : TE} (h : VE K G B td env fun x => x.fz fun x => ∃ ds, x.dctD = some ds ∧ VE K G B ty env fun y => y.fz fun y => VE K G B tx env fun z => z.fz fun z => ∃ k dz, y = .p (keyD k) ∧ z = .p dz ∧ Q (.p ((valD ds k).getD dz))) : VE K G B (tDGet2 td ty tx) env Q := fun σ R H r Qh k =>
  h σ R H r _ fun v R1 H1 x r1 s1 hv q => by
    obtain ⟨R2, x', r2, s2, hv2, ho, ds, hx, q2⟩ := hv.fz r1 q
    obtain ⟨a, xs, rfl, h1, h2⟩ := dctD_at r2 hv2 hx
    refine ⟨a, rfl, .inl ⟨xs, h1⟩, q2 σ R2 H1 r2 _ fun w R3 H3 y r3 s3 hw q3 => ?_⟩
    obtain ⟨R4, y', r4, s4, hw4, ho4, q4⟩ := hw.fz r3 q3
    refine q4 σ R4 H3 r4 _ fun u R5 H5 z r5 s5 hu q5 => ?_
    obtain ⟨R6, z', r6, s6, hu6, ho6, k', dz, rfl, rfl, q6⟩ := hu.fz r5 q5
    obtain ⟨a', xs', e', h1', h2'⟩ := dctD_at r6 (hv2.go ho (((s3.trans s4).trans s5).trans s6)) hx
    cases e'
    have hk := key_at (hw4.go ho4 (s5.trans s6) : VAt K B env σ R6 H5 w (.p (keyD k')))
    refine ⟨valV xs' k', .inl ⟨xs', k', h1', hk, rfl⟩, ?_⟩
    have st : Same R R6 := ((((s1.trans s2).trans s3).trans s4).trans s5).trans s6
    cases e : valD ds k' with
    | none =>
      rw [(h2'.val (k := k')).2 e]
      rw [e] at q6
      exact k u R6 H5 (.p dz) r6 st hu6 q6
    | some d =>
      obtain ⟨z, hz, hzd⟩ := (h2'.val (k := k')).1 d e
      rw [hz]
      rw [e] at q6
      exact k z R6 H5 (.p d) r6 st hzd q6
end
end VL

/-! What a call tells, kept as one's own: lists of plain things within tuples and dicts, behind pointers (D.ptr); a spare slot (Slot.hp) owns them. -/
namespace VL
open PySem L2
/-- told plain things stay when only lists and dicts are forgotten -/
theorem at_soft {K : PySem.W.Frag} {R R' : Hp} (hm : ∀ b o, R b = some o → isLD o = false → R' b = some o) : ∀ (n : Nat) {v : V} {d : D}, D.deepT n d = true → At K R v d → At K R' v d := by
  intro n
  induction n with
  | zero => intro v d h _; cases h
  | succ n ih =>
    intro v d h t
    cases t with
    | non => exact .non
    | bl b => exact .bl b
    | int i => exact .int i
    | str x => exact .str x
    | @tup b xs ds hs ht =>
      refine .tup (xs := xs) ?_ (ht.imp fun v d hm => ih (List.all_eq_true.mp (show ds.all (D.deepT n) = true from h) d hm))
      rcases hs with (hs | ⟨o, hs⟩) | hs
      · exact .inl (.inl (hm _ _ hs rfl))
      · exact .inl (.inr ⟨o, hm _ _ hs rfl⟩)
      · exact .inr hs
    | lst _ _ => cases h
    | ro _ _ => cases h
    | dct _ _ => cases h
    | lkd _ _ => cases h
    | ty n => exact .ty n
    | st hs => exact .st (hm _ _ hs rfl)
    | ptr b => exact .ptr b
    | cm hs => exact .cm (hm _ _ hs rfl)
theorem atL_soft {K : PySem.W.Frag} {R R' : Hp} (hm : ∀ b o, R b = some o → isLD o = false → R' b = some o) {n : Nat} {vs : List V} {ds : List D} (h : ds.all (D.deepT n) = true) (t : AtL K R vs ds) : AtL K R' vs ds :=
  t.imp fun v d hd => at_soft hm n (List.all_eq_true.mp h d hd)
mutual
/-- d with pointers in the place of its lists -/
inductive OwnR (gs : List (Addr × D)) : D → D → Prop
  | flat {d : D} : D.deepT 9 d = true → OwnR gs d d
  | lst {ds : List D} {a : Addr} : (a, D.lst ds) ∈ gs → OwnR gs (.lst ds) (.ptr a)
  | tup {ds es : List D} : OwnL gs ds es → OwnR gs (.tup ds) (.tup es)
  | dct {ks es : List (Key × D)} : OwnD gs ks es → OwnR gs (.dct ks) (.dct es)
inductive OwnL (gs : List (Addr × D)) : List D → List D → Prop
  | nil : OwnL gs [] []
  | cons {d e : D} {ds es : List D} : OwnR gs d e → OwnL gs ds es → OwnL gs (d :: ds) (e :: es)
inductive OwnD (gs : List (Addr × D)) : List (Key × D) → List (Key × D) → Prop
  | nil : OwnD gs [] []
  | cons {k : Key} {d e : D} {ds es : List (Key × D)} : OwnR gs d e → OwnD gs ds es → OwnD gs ((k, d) :: ds) ((k, e) :: es)
end
mutual
theorem OwnR.mono {gs hs : List (Addr × D)} (s : ∀ q ∈ gs, q ∈ hs) : ∀ {d e : D}, OwnR gs d e → OwnR hs d e
  | _, _, .flat h => .flat h
  | _, _, .lst h => .lst (s _ h)
  | _, _, .tup h => .tup (OwnL.mono s h)
  | _, _, .dct h => .dct (OwnD.mono s h)
theorem OwnL.mono {gs hs : List (Addr × D)} (s : ∀ q ∈ gs, q ∈ hs) : ∀ {d e : List D}, OwnL gs d e → OwnL hs d e
  | _, _, .nil => .nil
  | _, _, .cons h t => .cons (OwnR.mono s h) (OwnL.mono s t)
theorem OwnD.mono {gs hs : List (Addr × D)} (s : ∀ q ∈ gs, q ∈ hs) : ∀ {d e : List (Key × D)}, OwnD gs d e → OwnD hs d e
  | _, _, .nil => .nil
  | _, _, .cons h t => .cons (OwnR.mono s h) (OwnD.mono s t)
end
theorem own_lst' {gs : List (Addr × D)} {ds : List D} {e : D} (h : OwnR gs (.lst ds) e) : ∃ a, e = .ptr a ∧ (a, D.lst ds) ∈ gs := by
  cases h with
  | flat h => cases h
  | lst h => exact ⟨_, rfl, h⟩
theorem own_dct' {gs : List (Addr × D)} {ds : List (Key × D)} {e : D} (h : OwnR gs (.dct ds) e) : ∃ es, e = .dct es ∧ OwnD gs ds es := by
  cases h with
  | flat h => cases h
  | dct h => exact ⟨_, rfl, h⟩
theorem own_tup' {gs : List (Addr × D)} {ds : List D} {e : D} (h : OwnR gs (.tup ds) e) (n : D.deepT 9 (.tup ds) = false) : ∃ es, e = .tup es ∧ OwnL gs ds es := by
  cases h with
  | flat h => rw [n] at h; cases h
  | tup h => exact ⟨_, rfl, h⟩
theorem own_flat' {gs : List (Addr × D)} {d e : D} (h : OwnR gs d e) (n : D.deepT 1 d = true) (nt : ∀ ds, d ≠ .tup ds) : e = d := by
  cases h with
  | flat h => rfl
  | lst h => cases n
  | tup h => exact absurd rfl (nt _)
  | dct h => cases n
theorem OwnL.len {gs : List (Addr × D)} : ∀ {ds es : List D}, OwnL gs ds es → es.length = ds.length
  | _, _, .nil => rfl
  | _, _, .cons _ t => congrArg (· + 1) t.len
theorem OwnL.get {gs : List (Addr × D)} : ∀ {ds es : List D}, OwnL gs ds es → ∀ {i : Nat} {d : D}, ds[i]? = some d → ∃ e, es[i]? = some e ∧ OwnR gs d e
  | _, _, .nil, _, _, h => by simp at h
  | _, _, .cons h _, 0, _, q => by
    simp at q
    subst q
    exact ⟨_, rfl, h⟩
  | _, _, .cons _ t, i + 1, _, q => t.get (i := i) (by simpa using q)
theorem OwnD.keys {gs : List (Addr × D)} : ∀ {ds es : List (Key × D)}, OwnD gs ds es → es.map (·.1) = ds.map (·.1)
  | _, _, .nil => rfl
  | _, _, .cons _ t => by rw [List.map_cons, List.map_cons, t.keys]
theorem OwnD.val {gs : List (Addr × D)} {k : Key} : ∀ {ds es : List (Key × D)}, OwnD gs ds es → ∀ {d : D}, valD ds k = some d → ∃ e, valD es k = some e ∧ OwnR gs d e
  | _, _, .nil, _, h => by cases h
  | _, _, .cons (k := j) (d := d) (e := e) (ds := ds) (es := es) h t, d', q => by
    unfold valD at q ⊢
    by_cases z : j = k
    · rw [List.find?_cons_of_pos (by simpa using z)] at q ⊢
      cases q
      exact ⟨_, rfl, h⟩
    · rw [List.find?_cons_of_neg (by simpa using z)] at q ⊢
      exact t.val q
def D.leaf : D → Bool
  | .lst ds => ds.all (D.deepT 9)
  | _ => false
/-- plain things, flat lists, tuples and dicts of such -/
def D.ownT : Nat → D → Bool
  | 0, _ => false
  | n + 1, d => D.deepT 9 d || D.leaf d || match d with
    | .tup ds => ds.all (D.ownT n)
    | .dct ks => ks.all fun p => D.ownT n p.2
    | _ => false
/-- the lists that are kept apart -/
def GoodG (K : PySem.W.Frag) (R : Hp) (gs : List (Addr × D)) : Prop := ∀ q ∈ gs, ∃ ys ds, q.2 = .lst ds ∧ R q.1 = some (.lst ys) ∧ AtL K R ys ds ∧ ds.all (D.deepT 9) = true
theorem GoodG.app {K : PySem.W.Frag} {R : Hp} {gs hs : List (Addr × D)} (h : GoodG K R gs) (q : GoodG K R hs) : GoodG K R (gs ++ hs) := fun x hx => (List.mem_append.mp hx).elim (h x) (q x)
/-- known without the lists -/
def Keeps2 (R R2 : Hp) : Prop := (∀ b o, R b = some o → isLD o = false → R2 b = some o) ∧ ∀ b ks, R b = some (.dK ks) → R2 b = some (.dK ks)
theorem own_ex {K : PySem.W.Frag} {R : Hp} : ∀ (n : Nat) (d : D) (v : V), D.ownT n d = true → At K R v d → ∃ gs e, OwnR gs d e ∧ GoodG K R gs ∧ ∀ R2, Keeps2 R R2 → At K R2 v e := by
  intro n
  induction n with
  | zero => intro d v h; cases h
  | succ n ih =>
    intro d v h t
    have ihL : ∀ {ds : List D} {vs : List V}, ds.all (D.ownT n) = true → AtL K R vs ds → ∃ gs es, OwnL gs ds es ∧ GoodG K R gs ∧ ∀ R2, Keeps2 R R2 → AtL K R2 vs es := fun {ds} {vs} hd ht => by
      induction ds generalizing vs with
      | nil =>
        cases ht
        exact ⟨[], [], .nil, fun q hq => (by cases hq), fun _ _ => .nil⟩
      | cons d r ihr =>
        rw [List.all_cons, Bool.and_eq_true] at hd
        cases ht with
        | cons h1 h2 =>
          obtain ⟨gs, e, a1, a2, a3⟩ := ih d _ hd.1 h1
          obtain ⟨hs, es, b1, b2, b3⟩ := ihr hd.2 h2
          exact ⟨gs ++ hs, e :: es, .cons (a1.mono fun q hq => List.mem_append_left _ hq) (b1.mono fun q hq => List.mem_append_right _ hq), a2.app b2, fun R2 k => .cons (a3 R2 k) (b3 R2 k)⟩
    have ihD : ∀ {ds : List (Key × D)} {vs : List (Key × V)}, (ds.all fun p => D.ownT n p.2) = true → AtD K R vs ds → ∃ gs es, OwnD gs ds es ∧ GoodG K R gs ∧ ∀ R2, Keeps2 R R2 → AtD K R2 vs es := fun {ds} {vs} hd ht => by
      induction ds generalizing vs with
      | nil =>
        cases ht
        exact ⟨[], [], .nil, fun q hq => (by cases hq), fun _ _ => .nil⟩
      | cons d r ihr =>
        rw [List.all_cons, Bool.and_eq_true] at hd
        cases ht with
        | @cons k v vs d ds h1 h2 =>
          obtain ⟨gs, e, a1, a2, a3⟩ := ih d _ hd.1 h1
          obtain ⟨hs, es, b1, b2, b3⟩ := ihr hd.2 h2
          exact ⟨gs ++ hs, (k, e) :: es, .cons (a1.mono fun q hq => List.mem_append_left _ hq) (b1.mono fun q hq => List.mem_append_right _ hq), a2.app b2, fun R2 k => .cons (a3 R2 k) (b3 R2 k)⟩
    by_cases hf : D.deepT 9 d = true
    · exact ⟨[], d, .flat hf, fun q hq => (by cases hq), fun R2 k => at_soft k.1 9 hf t⟩
    have hf : D.deepT 9 d = false := by cases q : D.deepT 9 d <;> first | rfl | exact absurd q hf
    unfold D.ownT at h
    rw [hf, Bool.false_or] at h
    cases t with
    | @lst a xs ds h1 h2 =>
      have hl : ds.all (D.deepT 9) = true := by simpa [D.leaf] using h
      exact ⟨[(a, .lst ds)], .ptr a, .lst (List.mem_singleton.mpr rfl), fun q hq => by
        cases List.mem_singleton.mp hq
        exact ⟨xs, ds, rfl, h1, h2, hl⟩, fun R2 k => .ptr a⟩
    | @tup a xs ds h1 h2 =>
      obtain ⟨gs, es, a1, a2, a3⟩ := ihL (by simpa [D.leaf] using h) h2
      refine ⟨gs, .tup es, .tup a1, a2, fun R2 k => .tup (xs := xs) ?_ (a3 R2 k)⟩
      rcases h1 with (h1 | ⟨o, h1⟩) | h1
      · exact .inl (.inl (k.1 _ _ h1 rfl))
      · exact .inl (.inr ⟨o, k.1 _ _ h1 rfl⟩)
      · exact .inr h1
    | @dct a xs ds h1 h2 =>
      obtain ⟨gs, es, a1, a2, a3⟩ := ihD (by simpa [D.leaf] using h) h2
      exact ⟨gs, .dct es, .dct a1, a2, fun R2 k => .dct (k.2 _ _ h1) (a3 R2 k)⟩
    | non => cases hf
    | bl _ => cases hf
    | int _ => cases hf
    | str _ => cases hf
    | ro _ _ => simp [D.leaf] at h
    | lkd _ _ => simp [D.leaf] at h
    | st _ => cases hf
    | cm _ => cases hf
    | ptr _ => cases hf
    | ty _ => cases hf
section
variable {K : PySem.W.Frag} {G : Gs} {B : Bs} {env : Vn} {σ : L2.St} {R R' R1 H H' H1 : Hp} {Q : XV → Prop} {nx : Vn → Prop} {rt : XV → Prop} {bk ct : Vn → Prop} {Qe : Vn → Prop}
def softOf (R : Hp) : Hp := fun b => match R b with
  | some o => if isLD o then none else some o
  | none => none
theorem soft_some {b : Addr} {o : HO} (h : softOf R b = some o) : R b = some o ∧ isLD o = false := by
  unfold softOf at h
  cases e : R b with
  | none => rw [e] at h; cases h
  | some u =>
    rw [e] at h
    by_cases q : isLD u = true
    · simp [q] at h
    · simp only [Bool.not_eq_true] at q
      simp [q] at h
      subst h
      exact ⟨rfl, q⟩
theorem soft_of {b : Addr} {o : HO} (h : R b = some o) (q : isLD o = false) : softOf R b = some o := by
  unfold softOf
  rw [h]
  simp [q]
theorem soft_none {b : Addr} (h : R b = none) : softOf R b = none := by
  unfold softOf
  rw [h]
theorem soft_ld {b : Addr} {o : HO} (h : R b = some o) (q : isLD o = true) : softOf R b = none := by
  unfold softOf
  rw [h]
  simp [q]
def ownOf (R R' : Hp) (gs : List (Addr × D)) : Hp := fun b => match R b with
  | some o => some o
  | none => if b ∈ gs.map (·.1) then none else R' b
theorem own_old {b : Addr} {o : HO} {gs : List (Addr × D)} (h : R b = some o) : ownOf R R' gs b = some o := by
  unfold ownOf
  rw [h]
theorem own_in {b : Addr} {gs : List (Addr × D)} (h : R b = none) (hm : b ∈ gs.map (·.1)) : ownOf R R' gs b = none := by
  unfold ownOf
  rw [h]
  simp only
  rw [if_pos hm]
theorem own_out {b : Addr} {gs : List (Addr × D)} (h : R b = none) (hm : b ∉ gs.map (·.1)) : ownOf R R' gs b = R' b := by
  unfold ownOf
  rw [h]
  simp only
  rw [if_neg hm]
/-- what is new among lists and dicts was not there -/
theorem soft_new (rs : Sub K G R H) (s : Step K G (softOf R) H R' H') {b : Addr} {o : HO} (h : R' b = some o) (l : isLD o = true) : R b = none ∧ H b = none := by
  have hH : H b = none := by
    cases e : H b with
    | none => rfl
    | some y =>
      cases hy : hard y with
      | false =>
        cases e2 : softOf R b with
        | none =>
          rw [s.out b y e hy e2] at h
          cases h
        | some u =>
          have h2 := s.same b u e2
          rw [h] at h2
          cases h2
          rw [(soft_some e2).2] at l
          cases l
      | true =>
        cases e2 : softOf R b with
        | none =>
          have h1 := s.kept b y e fun m z => by rw [e2] at z; cases z
          have h2 := s.sub.of h (ld_mk l)
          rw [h1] at h2
          cases h2
          rw [hard_ld l] at hy
          cases hy
        | some u =>
          have h2 := s.same b u e2
          rw [h] at h2
          cases h2
          rw [(soft_some e2).2] at l
          cases l
  exact ⟨rs.none hH, hH⟩
theorem soft_old (s : Step K G (softOf R) H R' H') (rs : Sub K G R H) {b : Addr} {o u : HO} (h : R b = some o) (h' : R' b = some u) : u = o := by
  cases l : isLD o with
  | false =>
    have := s.same b o (soft_of h l)
    rw [h'] at this
    exact Option.some.inj this
  | true =>
    cases lu : isLD u with
    | true =>
      have := (soft_new rs s h' lu).1
      rw [h] at this
      cases this
    | false =>
      have hH := rs.of h (ld_mk l)
      have := s.out b o hH (hard_ld l) (soft_ld h l)
      rw [h'] at this
      cases this
theorem step_own (rs : Sub K G R H) (s : Step K G (softOf R) H R' H') (gs : List (Addr × D)) : Step K G R H (ownOf R R' gs) H' where
  same := fun b x e => own_old e
  sub := fun b x e => by
    cases q : R b with
    | some o =>
      rw [own_old q] at e
      cases e
      cases l : isLD x with
      | false => exact s.sub b x (s.same b x (soft_of q l))
      | true =>
        have h1 := rs.of q (ld_mk l)
        exact subAt_of (s.kept b x h1 fun m z => by rw [soft_ld q l] at z; cases z) (ld_mk l)
    | none =>
      by_cases hm : b ∈ gs.map (·.1)
      · rw [own_in q hm] at e
        cases e
      · rw [own_out q hm] at e
        exact s.sub b x e
  kept := fun b y e n => s.kept b y e fun m z => n m (soft_some z).1
  out := fun b y e hd n => by
    have h1 := s.out b y e hd (soft_none n)
    by_cases hm : b ∈ gs.map (·.1)
    · exact own_in n hm
    · rw [own_out n hm]
      exact h1
/-- a free slot takes objects that nobody has -/
theorem Rep.toHp (r : Rep K G B env σ R H) {j : Nat} (hj : env[j]? = some .u) {gs : List (Addr × D)} (hg : ∀ q ∈ gs, B.H q.1 = none ∧ R q.1 = none ∧ ∃ y, H q.1 = some y ∧ MAt K R y q.2) (hn : ∀ q ∈ gs, NoOwn env σ q.1 ∧ ∀ p ∈ B.pr, p.1 ≠ q.1) : Rep K G B (env.set j (.hp gs)) σ R H := by
  have hjl : j < env.length := (List.getElem?_eq_some_iff.mp hj).1
  have new : ∀ a, a ∈ gs.map (·.1) → NoOwn env σ a ∧ ∀ p ∈ B.pr, p.1 ≠ a := fun a ha => by
    obtain ⟨q, hq, rfl⟩ := List.mem_map.mp ha
    exact hn q hq
  exact {
    sub0 := r.sub0
    tab := r.tab
    step := r.step
    len := by rw [List.length_set]; exact r.len
    slots := fun i sl q => by
      by_cases e : j = i
      · subst e
        rw [List.getElem?_set_self hjl] at q
        cases q
        exact hg
      · rw [List.getElem?_set_ne e] at q
        exact r.slots i sl q
    dist := fun i k si sk a hik hi hk o1 o2 => by
      by_cases ei : j = i
      · subst ei
        rw [List.getElem?_set_self hjl] at hi
        rw [List.getElem?_set_ne hik] at hk
        cases hi
        exact (new a o1).1 k sk hk o2
      · rw [List.getElem?_set_ne ei] at hi
        by_cases ek : j = k
        · subst ek
          rw [List.getElem?_set_self hjl] at hk
          cases hk
          exact (new a o2).1 i si hi o1
        · rw [List.getElem?_set_ne ek] at hk
          exact r.dist i k si sk a hik hi hk o1 o2
    pr := fun q hq => by
      obtain ⟨h1, h2, h3, h0, h4⟩ := r.pr q hq
      refine ⟨h1, h2, h3, h0, fun i sl hi o => ?_⟩
      by_cases e : j = i
      · subst e
        rw [List.getElem?_set_self hjl] at hi
        cases hi
        exact (new q.1 o).2 q hq rfl
      · rw [List.getElem?_set_ne e] at hi
        exact h4 i sl hi o }
theorem Rep.goOwn (r : Rep K G B env σ R H) (s : Step K G (softOf R) H R' H') {gs : List (Addr × D)} (hg : ∀ q ∈ gs, ∃ ys ds, q.2 = .lst ds ∧ R' q.1 = some (.lst ys) ∧ AtL K (ownOf R R' gs) ys ds) {j : Nat} (hj : env[j]? = some .u) : Rep K G B (env.set j (.hp gs)) σ (ownOf R R' gs) H' := by
  refine (r.go (step_own r.sub s gs)).toHp hj (fun q hq => ?_) (fun q hq => ?_)
  · obtain ⟨ys, ds, h1, h2, h3⟩ := hg q hq
    obtain ⟨n1, n2⟩ := soft_new r.sub s h2 rfl
    refine ⟨r.fresh n2, own_in n1 (List.mem_map_of_mem (f := (·.1)) hq), .lst ys, s.sub.of h2 rfl, ?_⟩
    rw [h1]
    exact h3
  · obtain ⟨ys, ds, h1, h2, h3⟩ := hg q hq
    obtain ⟨n1, n2⟩ := soft_new r.sub s h2 rfl
    exact ⟨r.noslot n2, r.nopr n2⟩
theorem goodG_own (rs : Sub K G R H) (s : Step K G (softOf R) H R' H') {gs : List (Addr × D)} (hg : GoodG K R' gs) : ∀ q ∈ gs, ∃ ys ds, q.2 = .lst ds ∧ R' q.1 = some (.lst ys) ∧ AtL K (ownOf R R' gs) ys ds := by
  have soft : ∀ b o, R' b = some o → isLD o = false → ownOf R R' gs b = some o := fun b o e l => by
    cases q : R b with
    | some u =>
      rw [soft_old s rs q e]
      exact own_old q
    | none =>
      rw [own_out q]
      · exact e
      · intro hm
        obtain ⟨g, hg', rfl⟩ := List.mem_map.mp hm
        obtain ⟨ys, ds, _, h2, _⟩ := hg g hg'
        rw [e] at h2
        cases h2
        cases l
  intro q hq
  obtain ⟨ys, ds, h1, h2, h3, h4⟩ := hg q hq
  exact ⟨ys, ds, h1, h2, atL_soft soft h4 h3⟩
theorem own_keeps (rs : Sub K G R H) (s : Step K G (softOf R) H R' H') {gs : List (Addr × D)} (hg : GoodG K R' gs) : Keeps2 R' (ownOf R R' gs) := by
  have key : ∀ b o, R' b = some o → (∀ ys, o ≠ .lst ys) → ownOf R R' gs b = some o := fun b o e n => by
    cases q : R b with
    | some u =>
      rw [soft_old s rs q e]
      exact own_old q
    | none =>
      rw [own_out q]
      · exact e
      · intro hm
        obtain ⟨g, hg', rfl⟩ := List.mem_map.mp hm
        obtain ⟨ys, ds, _, h2, _⟩ := hg g hg'
        rw [e] at h2
        cases h2
        exact n _ rfl
  exact ⟨fun b o e l => key b o e fun ys z => (by rw [z] at l; cases l), fun b ks e => key b _ e fun ys z => (by cases z)⟩
/-- x = f(..), the told lists kept as one's own -/
theorem vs_asgF {i j : Nat} {α : Type} {fr : Bool} {args : α → List D} {pre : α → Prop} {post : α → D → Prop} {rs : α → Addr → Prop} {E : XK} {X : Addr → Prop} {t : TA} (hi : i < env.length) (hj : env[j]? = some .u) (hij : i ≠ j) (L : Lets K G B E X)
    (h : VA K G B t env fun xs => ∃ x, xs = (args x).map XV.p ∧ (args x).all (D.deepT 50) = true ∧ pre x ∧ (∀ C, rs x C → X C) ∧ ∀ d, post x d → D.ownT 9 d = true ∧ ∀ gs e, OwnR gs d e → (∀ q ∈ gs, D.leaf q.2 = true) → nx ((env.set j (.hp gs)).set i (.p e))) :
    VS K G B (tAsg (tCall (SpA K G fr args pre post rs) [] E t) (gName i)) env nx rt bk ct := fun σ R H rp Z kn _ _ _ =>
  h σ R H rp _ fun vs R1 H1 xs r1 s1 hv _ ⟨x, e, hd, hp, hr, q⟩ => by
    subst e
    rw [List.append_nil]
    refine ⟨softOf R1, x, ⟨fun b o e => r1.sub b o (soft_some e).1, fun P e => (by
      obtain ⟨ps, h⟩ := r1.tab' P e
      exact ⟨ps, soft_of h rfl⟩)⟩, atL_soft (fun b o e l => soft_of e l) hd (atL_of hv), hp, fun v R' H' d s ha _ hpost => ?_, fun C R' H' s hc => ?_⟩
    · obtain ⟨ho, q⟩ := q d hpost
      obtain ⟨gs, d', o1, o2, o3⟩ := own_ex 9 d v ho ha
      have hat := o3 _ (own_keeps r1.sub s o2)
      have r2 := r1.goOwn s (goodG_own r1.sub s o2) hj
      have hi2 : i < (env.set j (.hp gs)).length := by rw [List.length_set]; exact hi
      have r3 := r2.set (sl := .p d') (v := v) hi2 ⟨v, by rw [List.getElem?_set_self (r2.ilt hi2)], hat⟩ noOwn_p
      exact kn _ _ _ _ r3 (s1.trans (step_own r1.sub s gs).same) (q gs d' o1 fun g hg => by
        obtain ⟨_, ds, e1, _, _, e4⟩ := o2 g hg
        rw [e1]
        exact e4)
    · exact L C _ H' (r1.step.trans (step_own r1.sub s [])) (hr C hc)
/-- a list of lists -/
def D.scal : D → Bool
  | .int _ => true
  | .str _ => true
  | .bl _ => true
  | .non => true
  | _ => false
/-- a list of tuples of plain things -/
def D.tups : D → Bool
  | .lst ds => ds.all fun d => match d with
    | .tup es => es.all (D.deepT 8)
    | _ => false
  | _ => false
def D.leafS : D → Bool
  | .lst ds => ds.all (fun d => D.deepT 9 d || D.tups d) && ds.any D.scal
  | _ => false
/-- only pointers -/
def Refs (vs : List V) : Prop := ∀ v ∈ vs, ∃ a, v = .ref a
theorem tups_refs {ds : List D} {vs : List V} (h : D.tups (.lst ds) = true) (t : AtL K R vs ds) : Refs vs := fun v hv => by
  obtain ⟨k, hk⟩ := List.getElem?_of_mem hv
  have hkl : k < ds.length := by
    rw [← t.len]
    exact (List.getElem?_eq_some_iff.mp hk).1
  obtain ⟨d, hd⟩ : ∃ d, ds[k]? = some d := ⟨_, List.getElem?_eq_getElem hkl⟩
  obtain ⟨w, hw, hwd⟩ := t.get hd
  rw [hk] at hw
  cases hw
  have h2 := List.all_eq_true.mp h _ (List.mem_of_getElem? hd)
  cases hwd <;> first | exact ⟨_, rfl⟩ | cases h2
/-- the rows' lists, kept apart: none of them holds pointers alone -/
def GoodS (K : PySem.W.Frag) (R : Hp) (gs : List (Addr × D)) : Prop := ∀ q ∈ gs, ∃ ys ds, q.2 = .lst ds ∧ R q.1 = some (.lst ys) ∧ AtL K R ys ds ∧ D.leafS (.lst ds) = true
theorem own_rows : ∀ {ds : List D} {vs : List V}, ds.all D.leafS = true → AtL K R vs ds → ∃ gs es, OwnL gs ds es ∧ GoodS K R gs ∧ (∀ R2, AtL K R2 vs es) ∧ Refs vs
  | [], _, _, .nil => ⟨[], [], .nil, fun q hq => (by cases hq), fun _ => .nil, fun v hv => (by cases hv)⟩
  | d :: r, _, h, .cons (v := v) h1 h2 => by
    rw [List.all_cons, Bool.and_eq_true] at h
    obtain ⟨gs, es, a1, a2, a3, a5⟩ := own_rows h.2 h2
    cases h1 with
    | @lst a xs ds g1 g2 =>
      refine ⟨(a, .lst ds) :: gs, .ptr a :: es, .cons (.lst List.mem_cons_self) (a1.mono fun q hq => List.mem_cons_of_mem _ hq), fun q hq => ?_, fun R2 => .cons (.ptr a) (a3 R2), fun v hv => ?_⟩
      · rcases List.mem_cons.mp hq with rfl | hq
        · exact ⟨xs, ds, rfl, g1, g2, h.1⟩
        · exact a2 q hq
      · rcases List.mem_cons.mp hv with rfl | hv
        · exact ⟨a, rfl⟩
        · exact a5 v hv
    | _ => exact absurd h.1 (by simp [D.leafS])
theorem goodS_out {gs : List (Addr × D)} (g : GoodS K R gs) {b : Addr} {zs : List V} (h : R b = some (.lst zs)) (hz : Refs zs) : b ∉ gs.map (·.1) := fun hm => by
  obtain ⟨q, hq, e⟩ := List.mem_map.mp hm
  obtain ⟨ys, ds, e1, e2, e3, hs⟩ := g q hq
  rw [e, h] at e2
  cases e2
  unfold D.leafS at hs
  rw [Bool.and_eq_true, List.any_eq_true] at hs
  obtain ⟨_, d, hd, hsc⟩ := hs
  obtain ⟨k, hk⟩ := List.getElem?_of_mem hd
  obtain ⟨w, hw, hwd⟩ := e3.get hk
  obtain ⟨b, rfl⟩ := hz w (List.mem_of_getElem? hw)
  cases hwd <;> cases hsc
theorem goodS_own {gs : List (Addr × D)} (g : GoodS K R gs) {R2 : Hp} (k : ∀ b o, R b = some o → b ∉ gs.map (·.1) → R2 b = some o) : ∀ q ∈ gs, ∃ ys ds, q.2 = .lst ds ∧ R q.1 = some (.lst ys) ∧ AtL K R2 ys ds := fun q hq => by
  obtain ⟨ys, ds, e1, e2, e3, hs⟩ := g q hq
  have soft : ∀ b o, R b = some o → isLD o = false → R2 b = some o := fun b o e l => k b o e fun hm => by
    obtain ⟨p, hp, ep⟩ := List.mem_map.mp hm
    obtain ⟨zs, _, _, f2, _⟩ := g p hp
    rw [ep, e] at f2
    cases f2
    cases l
  unfold D.leafS at hs
  rw [Bool.and_eq_true] at hs
  refine ⟨ys, ds, e1, e2, e3.imp fun v d hd t => ?_⟩
  have h1 := List.all_eq_true.mp hs.1 d hd
  rw [Bool.or_eq_true] at h1
  rcases h1 with h1 | h1
  · exact at_soft soft 9 h1 t
  · cases t with
    | @lst c zs es c1 c2 =>
      refine .lst (k c _ c1 (goodS_out g c1 (tups_refs h1 c2))) (c2.imp fun v d hd t => ?_)
      have h2 := List.all_eq_true.mp (show es.all _ = true from h1) d hd
      cases d with
      | tup fs => exact at_soft soft 9 (show D.deepT 9 (.tup fs) = true from h2) t
      | _ => cases h2
    | _ => cases h1
theorem own_box {ds : List D} {v : V} (h : ds.all D.leafS = true) (t : At K R v (.lst ds)) : ∃ gs es, OwnL gs ds es ∧ GoodS K R gs ∧ ∀ R2 : Hp, (∀ b o, R b = some o → b ∉ gs.map (·.1) → R2 b = some o) → At K R2 v (.lst es) := by
  cases t with
  | @lst a xs _ h1 h2 =>
    obtain ⟨gs, es, a1, a2, a3, a5⟩ := own_rows h h2
    exact ⟨gs, es, a1, a2, fun R2 k => .lst (k _ _ h1 (goodS_out a2 h1 a5)) (a3 R2)⟩
theorem vs_asgF2 {i j : Nat} {α : Type} {fr : Bool} {args : α → List D} {pre : α → Prop} {post : α → D → Prop} {rs : α → Addr → Prop} {E : XK} {X : Addr → Prop} {t : TA} (hi : i < env.length) (hj : env[j]? = some .u) (hij : i ≠ j) (L : Lets K G B E X)
    (h : VA K G B t env fun xs => ∃ x, xs = (args x).map XV.p ∧ (args x).all (D.deepT 50) = true ∧ pre x ∧ (∀ C, rs x C → X C) ∧ ∀ d, post x d → ∃ ds, d = .lst ds ∧ ds.all D.leafS = true ∧ ∀ gs es, OwnL gs ds es → nx ((env.set j (.hp gs)).set i (.p (.lst es)))) :
    VS K G B (tAsg (tCall (SpA K G fr args pre post rs) [] E t) (gName i)) env nx rt bk ct := fun σ R H rp Z kn _ _ _ =>
  h σ R H rp _ fun vs R1 H1 xs r1 s1 hv _ ⟨x, e, hd, hp, hr, q⟩ => by
    subst e
    rw [List.append_nil]
    refine ⟨softOf R1, x, ⟨fun b o e => r1.sub b o (soft_some e).1, fun P e => (by
      obtain ⟨ps, h⟩ := r1.tab' P e
      exact ⟨ps, soft_of h rfl⟩)⟩, atL_soft (fun b o e l => soft_of e l) hd (atL_of hv), hp, fun v R' H' d s ha _ hpost => ?_, fun C R' H' s hc => ?_⟩
    · obtain ⟨ds, rfl, ho, q⟩ := q d hpost
      obtain ⟨gs, es, o1, o2, o3⟩ := own_box ho ha
      have kk : ∀ b o, R' b = some o → b ∉ gs.map (·.1) → ownOf R1 R' gs b = some o := fun b o e hm => by
        cases w : R1 b with
        | some u =>
          rw [soft_old s r1.sub w e]
          exact own_old w
        | none => rw [own_out w hm]; exact e
      have hat := o3 (ownOf R1 R' gs) kk
      have r2 := r1.goOwn s (goodS_own o2 kk) hj
      have hi2 : i < (env.set j (.hp gs)).length := by rw [List.length_set]; exact hi
      have r3 := r2.set (sl := .p (.lst es)) (v := v) hi2 ⟨v, by rw [List.getElem?_set_self (r2.ilt hi2)], hat⟩ noOwn_p
      exact kn _ _ _ _ r3 (s1.trans (step_own r1.sub s gs).same) (q gs es o1)
    · exact L C _ H' (r1.step.trans (step_own r1.sub s [])) (hr C hc)
/-! ### through pointers -/
theorem hp_at (r : Rep K G B env σ R H) {j : Nat} {gs : List (Addr × D)} (hj : env[j]? = some (.hp gs)) {a : Addr} {ds : List D} (hm : (a, .lst ds) ∈ gs) : ∃ ys, B.H a = none ∧ R a = none ∧ H a = some (.lst ys) ∧ AtL K R ys ds := by
  obtain ⟨h1, h2, y, h3, h4⟩ := r.slots j _ hj _ hm
  have h4 : MAt K R y (.lst ds) := h4
  cases y <;> first | exact ⟨_, h1, h2, h3, h4⟩ | exact h4.elim
def setP (gs : List (Addr × D)) (a : Addr) (d : D) : List (Addr × D) := gs.map fun q => if q.1 = a then (a, d) else q
theorem setP_keys (gs : List (Addr × D)) (a : Addr) (d : D) : (setP gs a d).map (·.1) = gs.map (·.1) := by
  unfold setP
  rw [List.map_map]
  refine List.map_congr_left fun q _ => ?_
  show (if q.1 = a then (a, d) else q).1 = q.1
  split
  · rename_i h
    exact h.symm
  · rfl
theorem setP_self {gs : List (Addr × D)} {a : Addr} {d e : D} (h : (a, e) ∈ gs) : (a, d) ∈ setP gs a d := List.mem_map.mpr ⟨(a, e), h, if_pos rfl⟩
theorem setP_ne {gs : List (Addr × D)} {a b : Addr} {d e : D} (h : (b, e) ∈ gs) (n : b ≠ a) : (b, e) ∈ setP gs a d := List.mem_map.mpr ⟨(b, e), h, if_neg n⟩
theorem Rep.mutP (r : Rep K G B env σ R H) {j : Nat} {gs : List (Addr × D)} (hj : env[j]? = some (.hp gs)) {a : Addr} {d d' : D} (hm : (a, d) ∈ gs) {y : HO} (hM : MAt K R y d') : Rep K G B (env.set j (.hp (setP gs a d'))) σ R (upd H a y) := by
  have ow : Slot.owns σ[j]? a (.hp gs) := List.mem_map_of_mem (f := (·.1)) hm
  refine r.mutS (sl' := .hp (setP gs a d')) hj ow (fun q hq => ?_) (fun b o => ?_)
  · obtain ⟨g, hg, e⟩ := List.mem_map.mp hq
    obtain ⟨h1, h2, y0, h3, h4⟩ := r.slots j _ hj g hg
    split at e
    · rename_i ea
      subst e
      rw [ea] at h1 h2
      exact ⟨h1, h2, y, upd_same, hM⟩
    · rename_i ea
      subst e
      exact ⟨h1, h2, y0, by rw [upd_ne ea]; exact h3, h4⟩
  · have o' : b ∈ (setP gs a d').map (·.1) := o
    rw [setP_keys] at o'
    exact o'
theorem ptr_at {v : V} {a : Addr} (h : At K R v (.ptr a)) : v = .ref a := by cases h; rfl
/-- xs[i] -/
theorem vo_ixP {j : Nat} {gs : List (Addr × D)} {a : Addr} {ds : List D} {i : Int} {d : D} (hj : env[j]? = some (.hp gs)) (hm : (a, .lst ds) ∈ gs) (hi : atI ds i = some d) (q : Q (.p d)) : VO K G B (rIxL K) env (.p (.ptr a)) (.p (.int i)) Q := fun σ R H r v w hv hw Qh k => by
  obtain ⟨ys, _, _, h3, h4⟩ := hp_at r hj hm
  obtain ⟨v', h5, h6⟩ := atl_at h4 hi
  exact ⟨a, ys, i, v', ptr_at hv, int_at hw, .inl (.inl h3), h5, k v' R H (.p d) r (Same.refl R) h6 q⟩
theorem vc_lenP {j : Nat} {gs : List (Addr × D)} {a : Addr} {ds : List D} (hj : env[j]? = some (.hp gs)) (hm : (a, .lst ds) ∈ gs) (q : Q (.p (.int ds.length))) : VC K G B (fun xs H Q => ∃ p ys, xs = [.ref p] ∧ (SqL K H p ys ∨ SqT K H p ys) ∧ Q (.int ys.length) H) env [.p (.ptr a)] Q := vc1 fun σ R H r v hv Qh k => by
  obtain ⟨ys, _, _, h3, h4⟩ := hp_at r hj hm
  exact ⟨a, ys, by rw [ptr_at hv], .inl (.inl (.inl h3)), by rw [h4.len]; exact k _ R H (.p (.int _)) r (Same.refl R) (.int _) q⟩
theorem vc_listP {j : Nat} {gs : List (Addr × D)} {a : Addr} {ds : List D} (hj : env[j]? = some (.hp gs)) (hm : (a, .lst ds) ∈ gs) (q : Q (.o (.lst ds))) : VC K G B (fun xs H Q => ∃ p ys, xs = [.ref p] ∧ (SqL K H p ys ∨ SqT K H p ys) ∧ ∀ l, H l = none → Q (.ref l) (upd H l (.lst ys))) env [.p (.ptr a)] Q := vc1 fun σ R H r v hv Qh k => by
  obtain ⟨ys, _, _, h3, h4⟩ := hp_at r hj hm
  refine ⟨a, ys, by rw [ptr_at hv], .inl (.inl (.inl h3)), fun l hl => ?_⟩
  obtain ⟨r2, v2⟩ := own_lst r hl h4
  exact k _ R _ _ r2 (Same.refl R) v2 q
/-- xs[e] = v -/
theorem vg_subP {tc te : TE} {d : D} (h : VE K G B tc env fun x => ∃ a, x = .p (.ptr a) ∧ VE K G B te env fun x => ∃ (z : Int) (k j : Nat) (gs : List (Addr × D)) (ds : List D), x = .p (.int z) ∧ env[j]? = some (.hp gs) ∧ (a, .lst ds) ∈ gs ∧ ixN ds.length z = some k ∧ Qe (env.set j (.hp (setP gs a (.lst (ds.set k d)))))) :
    VG K G B (gSub tc te rSetL) (.p d) env Qe := fun σ R H r v hv Qh k =>
  h σ R H r _ fun c R0 H0 x0 r0 s0 hc ⟨a, e0, q0⟩ => by
    subst e0
    refine q0 σ R0 H0 r0 _ fun w R1 H1 x r1 s1 hw ⟨z, i, j, gs, ds, e, hj, hm, hix, q⟩ => ?_
    subst e
    cases hw
    obtain ⟨ys, _, _, h3, h4⟩ := hp_at r1 hj hm
    refine ⟨a, ys, z, i, ptr_at hc, rfl, h3, by rw [h4.len]; exact hix, ?_⟩
    exact k _ σ R1 _ (r1.mutP hj hm (y := .lst (ys.set i v)) (d' := .lst (ds.set i d)) (AtL.set (At.same (s0.trans s1) hv) i h4)) (s0.trans s1) q
/-- xs[e] op= v -/
theorem vs_augP {tc ti te : TE} {tip : TIp} (h : VE K G B tc env fun x => ∃ a, x = .p (.ptr a) ∧ VE K G B ti env fun y => ∃ (z : Int) (i j : Nat) (gs : List (Addr × D)) (ds : List D) (d : D), y = .p (.int z) ∧ env[j]? = some (.hp gs) ∧ (a, .lst ds) ∈ gs ∧ ixN ds.length z = some i ∧ ds[i]? = some d ∧
      VE K G B te env fun x => x.fz fun x => VO K G B tip env (.p d) x fun u => ∃ e, u = .p e ∧ nx (env.set j (.hp (setP gs a (.lst (ds.set i e)))))) :
    VS K G B (tAugS tc ti te (rIxL K) tip rSetL) env nx rt bk ct := fun σ R H r Z kn _ _ _ =>
  h σ R H r _ fun c R0 H0 x0 r0 s0 hc ⟨a, e0, q0⟩ => by
    subst e0
    refine q0 σ R0 H0 r0 _ fun w R1 H1 x r1 s1 hw ⟨z, i, j, gs, ds, d, e, hj, hm, hix, hg, q⟩ => ?_
    subst e
    cases hw
    obtain ⟨ys, _, _, h3, h4⟩ := hp_at r1 hj hm
    obtain ⟨u, hu, hud⟩ := h4.get hg
    have hat : atI ys z = some u := by
      unfold atI
      rw [h4.len, hix]
      exact hu
    refine ⟨a, ys, z, u, ptr_at hc, rfl, .inl (.inl h3), hat, q σ R1 H1 r1 _ fun v R2 H2 x r2 s2 hv q2 => ?_⟩
    obtain ⟨R3, x', r3, s3, hv3, ho, q3⟩ := hv.fz r2 q2
    refine q3 σ R3 H2 r3 u v (At.same (s2.trans s3) hud) hv3 _ fun p R4 H4 x4 r4 s4 hp ⟨e, he, q4⟩ => ?_
    subst he
    obtain ⟨zs, _, _, f3, f4⟩ := hp_at r4 hj hm
    refine ⟨a, zs, z, i, ptr_at hc, rfl, f3, by rw [f4.len]; exact hix, ?_⟩
    exact kn _ σ R4 _ (r4.mutP hj hm (y := .lst (zs.set i p)) (d' := .lst (ds.set i e)) (AtL.set hp i f4)) ((((s0.trans s1).trans s2).trans s3).trans s4) q4
/-- xs.append(e) -/
theorem vs_appendP {tc te : TE} (h : VE K G B tc env fun x => ∃ (a : Addr) (j : Nat) (gs : List (Addr × D)) (ds : List D), x = .p (.ptr a) ∧ env[j]? = some (.hp gs) ∧ (a, .lst ds) ∈ gs ∧ VE K G B te env fun x => x.fz fun x => ∃ d, x = .p d ∧ ds.length < 100000 ∧ nx (env.set j (.hp (setP gs a (.lst (ds ++ [d])))))) :
    VS K G B (tDrop (tBM K "list" rAppend tc (tCons te tNil))) env nx rt bk ct := fun σ R H r Z kn _ _ _ =>
  h σ R H r _ fun c R0 H0 x0 r0 s0 hc ⟨a, j, gs, ds, e0, hj, hm, q0⟩ => by
    subst e0
    obtain ⟨ys, _, _, h3, h4⟩ := hp_at r0 hj hm
    have ec := ptr_at hc
    subst ec
    refine .inl ⟨rfl, ys, .inl (.inl h3)⟩ |> fun ht => ⟨ht, q0 σ R0 H0 r0 _ fun v R1 H1 x r1 s1 hv q => ?_⟩
    obtain ⟨R2, x', r2, s2, hv2, ho, d, rfl, hl, q2⟩ := hv.fz r1 q
    obtain ⟨zs, _, _, f3, f4⟩ := hp_at r2 hj hm
    refine ⟨a, zs, v, rfl, rfl, f3, by rw [AtL.len f4]; exact Nat.lt_of_lt_of_le hl (by decide), ?_⟩
    exact kn _ σ R2 _ (r2.mutP hj hm (y := .lst (zs ++ [v])) (d' := .lst (ds ++ [d])) (AtL.app f4 (.cons hv2 .nil))) ((s0.trans s1).trans s2) q2
/-- what the state tells, is known -/
theorem vs_pure {t : TS} {P : Prop} (hP : ∀ σ R H, Rep K G B env σ R H → P) (h : P → VS K G B t env nx rt bk ct) : VS K G B t env nx rt bk ct := fun σ R H r => h (hP σ R H r) σ R H r
/-- two views of one list -/
theorem hp_same (r : Rep K G B env σ R H) {j : Nat} {gs : List (Addr × D)} (hj : env[j]? = some (.hp gs)) {a : Addr} {x y : Str} {ds es : List D} (h1 : (a, .lst (.str x :: ds)) ∈ gs) (h2 : (a, .lst (.str y :: es)) ∈ gs) : x = y := by
  obtain ⟨ys, _, _, h3, h4⟩ := hp_at r hj h1
  obtain ⟨zs, _, _, g3, g4⟩ := hp_at r hj h2
  rw [h3] at g3
  cases g3
  cases h4 with
  | cons a1 _ =>
    cases g4 with
    | cons b1 _ =>
      cases a1
      cases b1
      rfl
mutual
/-- what is known again, is told without pointers -/
theorem own_back {R2 : Hp} {gs : List (Addr × D)} (s : Same R R2) (hg : ∀ q ∈ gs, ∃ y, R2 q.1 = some y ∧ MAt K R2 y q.2) : ∀ {d e : D}, OwnR gs d e → ∀ {v : V}, At K R v e → At K R2 v d
  | _, _, .flat _, _, t => t.same s
  | _, _, .lst h, _, t => by
    rw [ptr_at t]
    obtain ⟨y, h1, h2⟩ := hg _ h
    cases y <;> first | exact .lst h1 h2 | exact h2.elim
  | _, _, .tup h, _, t => by
    cases t with
    | tup h1 h2 => exact .tup (same_t s h1) (own_backL s hg h h2)
  | _, _, .dct h, _, t => by
    cases t with
    | dct h1 h2 => exact .dct (s _ _ h1) (own_backD s hg h h2)
theorem own_backL {R2 : Hp} {gs : List (Addr × D)} (s : Same R R2) (hg : ∀ q ∈ gs, ∃ y, R2 q.1 = some y ∧ MAt K R2 y q.2) : ∀ {d e : List D}, OwnL gs d e → ∀ {v : List V}, AtL K R v e → AtL K R2 v d
  | _, _, .nil, _, t => by cases t; exact .nil
  | _, _, .cons h r, _, t => by
    cases t with
    | cons h1 h2 => exact .cons (own_back s hg h h1) (own_backL s hg r h2)
theorem own_backD {R2 : Hp} {gs : List (Addr × D)} (s : Same R R2) (hg : ∀ q ∈ gs, ∃ y, R2 q.1 = some y ∧ MAt K R2 y q.2) : ∀ {d e : List (Key × D)}, OwnD gs d e → ∀ {v : List (Key × V)}, AtD K R v e → AtD K R2 v d
  | _, _, .nil, _, t => by cases t; exact .nil
  | _, _, .cons h r, _, t => by
    cases t with
    | cons h1 h2 => exact .cons (own_back s hg h h1) (own_backD s hg r h2)
end
def backOf (R H : Hp) (gs : List (Addr × D)) : Hp := fun b => match R b with
  | some o => some o
  | none => if b ∈ gs.map (·.1) then H b else none
theorem back_old {b : Addr} {o : HO} {gs : List (Addr × D)} (h : R b = some o) : backOf R H gs b = some o := by
  unfold backOf
  rw [h]
theorem back_in {b : Addr} {gs : List (Addr × D)} (h : R b = none) (hm : b ∈ gs.map (·.1)) : backOf R H gs b = H b := by
  unfold backOf
  rw [h]
  simp only
  rw [if_pos hm]
theorem back_out {b : Addr} {gs : List (Addr × D)} (h : R b = none) (hm : b ∉ gs.map (·.1)) : backOf R H gs b = none := by
  unfold backOf
  rw [h]
  simp only
  rw [if_neg hm]
/-- the slot's objects are given away -/
theorem Rep.ofHp (r : Rep K G B env σ R H) {j : Nat} {gs : List (Addr × D)} (hj : env[j]? = some (.hp gs)) : Rep K G B (env.set j .u) σ (backOf R H gs) H ∧ Same R (backOf R H gs) ∧ ∀ q ∈ gs, ∃ y, backOf R H gs q.1 = some y ∧ MAt K (backOf R H gs) y q.2 := by
  have sm : Same R (backOf R H gs) := fun b x e => back_old e
  have hjl : j < env.length := (List.getElem?_eq_some_iff.mp hj).1
  have fact := r.slots j _ hj
  have fact : ∀ q ∈ gs, B.H q.1 = none ∧ R q.1 = none ∧ ∃ y, H q.1 = some y ∧ MAt K R y q.2 := fact
  have rf := r.forget j
  have no : ∀ b, b ∈ gs.map (·.1) → NoOwn (env.set j .u) σ b ∧ ∀ q ∈ B.pr, q.1 ≠ b := fun b hb => ⟨r.noown hj (show Slot.owns σ[j]? b (.hp gs) from hb), r.nopr' hj (show Slot.owns σ[j]? b (.hp gs) from hb)⟩
  refine ⟨?_, sm, fun q hq => ?_⟩
  · exact {
      sub0 := r.sub0
      tab := r.tab
      step := {
        same := r.step.same.trans sm
        sub := fun b x e => by
          cases q : R b with
          | some o =>
            rw [back_old q] at e
            cases e
            exact r.step.sub b x q
          | none =>
            by_cases hm : b ∈ gs.map (·.1)
            · rw [back_in q hm] at e
              obtain ⟨g, hg, rfl⟩ := List.mem_map.mp hm
              obtain ⟨_, _, y, h3, h4⟩ := fact g hg
              rw [h3] at e
              cases e
              exact subAt_of h3 (mat_mk h4)
            · rw [back_out q hm] at e
              cases e
        kept := r.step.kept
        out := fun b y e hd n => by
          have h1 := r.step.out b y e hd n
          by_cases hm : b ∈ gs.map (·.1)
          · obtain ⟨g, hg, rfl⟩ := List.mem_map.mp hm
            have := (fact g hg).1
            rw [e] at this
            cases this
          · exact back_out h1 hm }
      len := rf.len
      dist := rf.dist
      pr := fun q hq => by
        obtain ⟨h1, h2, h3, h4⟩ := rf.pr q hq
        refine ⟨h1, ?_, h3, h4⟩
        by_cases hm : q.1 ∈ gs.map (·.1)
        · exact absurd rfl ((no _ hm).2 q hq)
        · exact back_out h2 hm
      slots := fun i sl q => by
        have hs := rf.slots i sl q
        have nb : ∀ b, R b = none → (Slot.owns σ[i]? b sl) → backOf R H gs b = none := fun b hb o => by
          by_cases hm : b ∈ gs.map (·.1)
          · exact absurd o ((no b hm).1 i sl q)
          · exact back_out hb hm
        cases sl with
        | u => trivial
        | p d =>
          obtain ⟨v, h1, h2⟩ := hs
          exact ⟨v, h1, h2.same sm⟩
        | mu d =>
          obtain ⟨b, y, h1, h2, h3, h4, h5⟩ := hs
          exact ⟨b, y, h1, h2, nb b h3 h1, h4, h5.same sm⟩
        | hp hs' =>
          intro g hg
          obtain ⟨h2, h3, y, h4, h5⟩ := hs g hg
          exact ⟨h2, nb g.1 h3 (List.mem_map_of_mem (f := (·.1)) hg), y, h4, h5.same sm⟩ }
  · obtain ⟨_, h2, y, h3, h4⟩ := fact q hq
    exact ⟨y, by rw [back_in h2 (List.mem_map_of_mem (f := (·.1)) hq)]; exact h3, h4.same sm⟩
/-- the slot's objects are plain from here on -/
theorem vs_frzP (i j : Nat) {t : TS} {gs : List (Addr × D)} {d e : D} (hi : env[i]? = some (.p e)) (hj : env[j]? = some (.hp gs)) (ho : OwnR gs d e) (h : VS K G B t ((env.set j .u).set i (.p d)) nx rt bk ct) : VS K G B t env nx rt bk ct := fun σ R H r Z kn kr kb kc => by
  obtain ⟨r2, sm, hg⟩ := r.ofHp hj
  have hij : i ≠ j := fun z => by
    subst z
    rw [hi] at hj
    cases hj
  obtain ⟨v, h1, h2⟩ := r.slots i _ hi
  have hil : i < (env.set j .u).length := by rw [List.length_set]; exact (List.getElem?_eq_some_iff.mp hi).1
  have es : σ.set i (some v) = σ := by
    refine List.ext_getElem? fun k => ?_
    by_cases e : i = k
    · subst e
      rw [List.getElem?_set_self (r2.ilt hil), h1]
    · rw [List.getElem?_set_ne e]
  have r3 := r2.set (sl := .p d) (v := v) hil ⟨v, by rw [List.getElem?_set_self (r2.ilt hil)], own_back sm hg ho h2⟩ noOwn_p
  rw [es] at r3
  exact h σ _ H r3 Z (fun e σ' R' H' r' s' q => kn e σ' R' H' r' (sm.trans s') q) (fun v e σ' R' H' x r' s' hv q => kr v e σ' R' H' x r' (sm.trans s') hv q) (fun e σ' R' H' r' s' q => kb e σ' R' H' r' (sm.trans s') q) (fun e σ' R' H' r' s' q => kc e σ' R' H' r' (sm.trans s') q)
theorem vs_frzB (i j : Nat) {t : TS} {gs : List (Addr × D)} {ds es : List D} (hi : env[i]? = some (.p (.lst es))) (hj : env[j]? = some (.hp gs)) (ho : OwnL gs ds es) (h : VS K G B t ((env.set j .u).set i (.p (.lst ds))) nx rt bk ct) : VS K G B t env nx rt bk ct := fun σ R H r Z kn kr kb kc => by
  obtain ⟨r2, sm, hg⟩ := r.ofHp hj
  obtain ⟨v, h1, h2⟩ := r.slots i _ hi
  have hil : i < (env.set j .u).length := by rw [List.length_set]; exact (List.getElem?_eq_some_iff.mp hi).1
  have es : σ.set i (some v) = σ := by
    refine List.ext_getElem? fun k => ?_
    by_cases e : i = k
    · subst e
      rw [List.getElem?_set_self (r2.ilt hil), h1]
    · rw [List.getElem?_set_ne e]
  have h3 : At K (backOf R H gs) v (.lst ds) := by
    cases h2 with
    | lst g1 g2 => exact .lst (sm _ _ g1) (own_backL sm hg ho g2)
  have r3 := r2.set (sl := .p (.lst ds)) (v := v) hil ⟨v, by rw [List.getElem?_set_self (r2.ilt hil)], h3⟩ noOwn_p
  rw [es] at r3
  exact h σ _ H r3 Z (fun e σ' R' H' r' s' q => kn e σ' R' H' r' (sm.trans s') q) (fun v e σ' R' H' x r' s' hv q => kr v e σ' R' H' x r' (sm.trans s') hv q) (fun e σ' R' H' r' s' q => kb e σ' R' H' r' (sm.trans s') q) (fun e σ' R' H' r' s' q => kc e σ' R' H' r' (sm.trans s') q)
/-! ### lent behind pointers -/
inductive LentR (env : Vn) : List XV → List D → Prop
  | nil : LentR env [] []
  | p {d : D} {xs : List XV} {ds : List D} : LentR env xs ds → LentR env (.p d :: xs) (d :: ds)
  | m {i : Nat} {d : D} {xs : List XV} {ds : List D} : LentR env xs ds → LentR env (.m i d :: xs) (d :: ds)
  | h {j : Nat} {gs : List (Addr × D)} {d e : D} {xs : List XV} {ds : List D} : env[j]? = some (.hp gs) → OwnR gs d e → LentR env xs ds → LentR env (.p e :: xs) (d :: ds)
theorem lent_atR (r : Rep K G B env σ R H) : ∀ {xs : List XV} {ds : List D}, LentR env xs ds → ∀ {vs : List V}, VAtL K B env σ R H vs xs → AtL K (lend R H env σ) vs ds := by
  have s : Same R (lend R H env σ) := fun b x e => by
    rw [lend_no]
    · exact e
    · intro z
      rw [(r.mu z).1] at e
      cases e
  intro xs ds t
  induction t with
  | nil =>
    intro vs h
    cases vs with
    | nil => exact .nil
    | cons _ _ => exact h.elim
  | p _ ih =>
    intro vs h
    cases vs with
    | nil => exact h.elim
    | cons v vs => exact .cons (At.same s h.1) (ih h.2)
  | @m i d xs ds _ ih =>
    intro vs h
    cases vs with
    | nil => exact h.elim
    | cons v vs =>
      refine .cons ?_ (ih h.2)
      obtain ⟨h1, h2⟩ := h.1
      obtain ⟨a, y, g1, g2, g3, g4, g5⟩ := r.slots i _ h1
      rw [g1] at h2
      cases h2
      have e : lend R H env σ a = some y := (lend_mu ⟨i, _, h1, g1⟩).trans g4
      cases y <;> cases d <;> first
        | exact g5.elim
        | exact .lst e (AtL.same s g5)
        | exact .dct e (AtD.same s g5)
  | @h j gs d e xs ds hj ho _ ih =>
    intro vs h
    cases vs with
    | nil => exact h.elim
    | cons v vs =>
      refine .cons (own_back s (fun q hq => ?_) ho h.1) (ih h.2)
      obtain ⟨h1, h2, y, h3, h4⟩ := r.slots j _ hj q hq
      exact ⟨y, (lend_mu ⟨j, _, hj, List.mem_map_of_mem (f := (·.1)) hq⟩).trans h3, h4.same s⟩
theorem call_lentR {α : Type} {fr : Bool} {args : α → List D} {pre : α → Prop} {post : α → D → Prop} {rs : α → Addr → Prop} {E : XK} {X : Addr → Prop} (L : Lets K G B E X) (r1 : Rep K G B env σ R1 H1) {vs : List V} {x : α} (hv : AtL K (lend R1 H1 env σ) vs (args x)) (hp : pre x) (hr : ∀ C, rs x C → X C) {Qh : VK}
    (hd : ∀ d, post x d → D.deepT 9 d = true) (k : ∀ v R' H' d, Rep K G B env σ R' H' → Same R1 R' → At K R' v d → post x d → Qh v H') : SpA K G fr args pre post rs vs H1 Qh E := by
  have key : ∀ R' H', Step K G (lend R1 H1 env σ) H1 R' H' → Step K G R1 H1 (cutMu R' env σ) H' := fun R' H' s => {
    same := fun b x e => by
      have nb : ¬ MuAt env σ b := fun z => by
        rw [(r1.mu z).1] at e
        cases e
      rw [cut_no nb]
      exact s.same b x ((lend_no nb).trans e)
    sub := fun b x e => by
      by_cases z : MuAt env σ b
      · rw [cut_mu z] at e
        cases e
      · rw [cut_no z] at e
        exact s.sub b x e
    kept := fun b y e n => s.kept b y e fun m z => by
      by_cases w : MuAt env σ b
      · rw [lend_mu w, e] at z
        cases z
        obtain ⟨_, y', h1, h2⟩ := r1.mu w
        rw [e] at h1
        cases h1
        exact ld_mk h2
      · rw [lend_no w] at z
        exact n m z
    out := fun b y e hd n => by
      by_cases w : MuAt env σ b
      · exact cut_mu w
      · rw [cut_no w]
        exact s.out b y e hd ((lend_no w).trans n) }
  have sub : Sub K G (lend R1 H1 env σ) H1 := fun b x e => by
    by_cases w : MuAt env σ b
    · rw [lend_mu w] at e
      obtain ⟨_, y, h1, h2⟩ := r1.mu w
      rw [e] at h1
      cases h1
      exact subAt_of e (ld_mk h2)
    · rw [lend_no w] at e
      exact r1.sub b x e
  have tb : TabIn G (lend R1 H1 env σ) := TabIn.go r1.tab' fun b z e => by
    rw [lend_no]
    · exact e
    · intro w
      rw [(r1.mu w).1] at e
      cases e
  refine ⟨lend R1 H1 env σ, x, ⟨sub, tb⟩, hv, hp, fun v R' H' d s ha _ hpost => ?_, fun C R' H' s hc => L C (cutMu R' env σ) H' (r1.step.trans (key R' H' s)) (hr C hc)⟩
  have st := key R' H' s
  refine k v (cutMu R' env σ) H' d (r1.go st) st.same (at_cut (fun b w => ?_) 9 (hd d hpost) ha) hpost
  obtain ⟨_, y, h1, h2⟩ := r1.mu w
  exact ⟨y, s.same b y ((lend_mu w).trans h1), h2⟩
theorem ve_callP {α : Type} {fr : Bool} {args : α → List D} {pre : α → Prop} {post : α → D → Prop} {rs : α → Addr → Prop} {E : XK} {X : Addr → Prop} {t : TA} (L : Lets K G B E X)
    (h : VA K G B t env fun xs => ∃ x, LentR env xs (args x) ∧ pre x ∧ (∀ C, rs x C → X C) ∧ ∀ d, post x d → D.deepT 9 d = true ∧ Q (.p d)) : VE K G B (tCall (SpA K G fr args pre post rs) [] E t) env Q := fun σ R H rp Qh k =>
  h σ R H rp _ fun vs R1 H1 xs r1 s1 hv _ ⟨x, e, hp, hr, q⟩ => by
    rw [List.append_nil]
    exact call_lentR L r1 (lent_atR r1 e hv) hp hr (fun d hd => (q d hd).1) fun v R' H' d r' s' ha hd => k v R' H' (.p d) r' (s1.trans s') ha (q d hd).2
/-- a < b < c -/
theorem ve_chain {r r' : R2} {ta tb tc : TE} (h : VE K G B ta env fun x => x.fz fun x => VE K G B tb env fun y => y.fz fun y => VO K G B r env x y fun z => ∃ b, z = .p (.bl b) ∧ (b = true → VE K G B tc env fun w => w.fz fun w => VO K G B r' env y w Q) ∧ (b = false → Q (.p (.bl false)))) : VE K G B (tChain r r' ta tb tc) env Q := fun σ R H rp Qh k =>
  h σ R H rp _ fun v R1 H1 x r1 s1 hv q => by
    obtain ⟨R2, x', r2, s2, hv2, ho, q2⟩ := hv.fz r1 q
    refine q2 σ R2 H1 r2 _ fun w R3 H3 y r3 s3 hw q3 => ?_
    obtain ⟨R4, y', r4, s4, hw4, ho4, q4⟩ := hw.fz r3 q3
    refine q4 σ R4 H3 r4 v w (hv2.go ho (s3.trans s4)) hw4 _ fun z R5 H5 z' r5 s5 hz ⟨b, e, q5, q6⟩ => ?_
    subst e
    cases hz
    refine ⟨b, rfl, ?_⟩
    have st : Same R R5 := (((s1.trans s2).trans s3).trans s4).trans s5
    cases b with
    | true =>
      rw [if_pos rfl]
      refine q5 rfl σ R5 H5 r5 _ fun u R6 H6 u' r6 s6 hu q7 => ?_
      obtain ⟨R7, u2, r7, s7, hu7, ho7, q8⟩ := hu.fz r6 q7
      exact q8 σ R7 H6 r7 w u (hw4.go ho4 ((s5.trans s6).trans s7)) hu7 _ fun t R8 H8 t' r8 s8 ht q9 => k t R8 H8 t' r8 (((st.trans s6).trans s7).trans s8) ht q9
    | false =>
      rw [if_neg Bool.false_ne_true]
      exact k _ R5 H5 (.p (.bl false)) r5 st (.bl false) (q6 rfl)
end
end VL

/-! A def that changes lists that are the caller's own: SpM; expressions that do so: VEx. -/
namespace VL
open PySem L2
def lessG (H : Hp) (gs : List (Addr × D)) : Hp := fun b => if b ∈ gs.map (·.1) then none else H b
/-- own: the caller's lists behind pointers; post tells what they are then -/
def SpM (K : PySem.W.Frag) (G : Gs) {α : Type} (args : α → List D) (own : α → List (Addr × D)) (pre : α → Prop) (post : α → List (Addr × D) → D → Prop) : Sp := fun vs H Q E =>
  ∃ R x, (Sub K G R (lessG H (own x)) ∧ TabIn G R) ∧ AtL K R vs (args x) ∧ pre x ∧ (∀ q ∈ own x, R q.1 = none ∧ ∃ y, H q.1 = some y ∧ MAt K R y q.2) ∧
    ∀ v R' H' d gs, Step K G R (lessG H (own x)) R' H' → At K R' v d → gs.map (·.1) = (own x).map (·.1) → (∀ q ∈ gs, R' q.1 = none ∧ ∃ y, H' q.1 = some y ∧ MAt K R' y q.2) → post x gs d → Q v H'
section
variable {K : PySem.W.Frag} {G : Gs} {B : Bs} {env : Vn} {σ : L2.St} {R R' R1 H H' H1 : Hp} {Q : XV → Prop} {nx : Vn → Prop} {rt : XV → Prop} {bk ct : Vn → Prop} {Qx : Vn → XV → Prop}
def VEx (K : PySem.W.Frag) (G : Gs) (B : Bs) (t : TE) (env : Vn) (Q : Vn → XV → Prop) : Prop := ∀ σ R H, Rep K G B env σ R H → ∀ Qh : VK,
  (∀ v e R' H' x, Rep K G B e σ R' H' → Same R R' → VAt K B e σ R' H' v x → Q e x → Qh v H') → t σ H Qh
theorem vx_of {t : TE} (h : VE K G B t env (Qx env)) : VEx K G B t env Qx := fun σ R H r Qh k => h σ R H r Qh fun v R' H' x r' s' hv q => k v env R' H' x r' s' hv q
theorem vx_andV {ta tb : TE} (h : VE K G B ta env fun x => ∃ b, x = .p (.bl b) ∧ (b = true → VEx K G B tb env Qx) ∧ (b = false → Qx env (.p (.bl false)))) : VEx K G B (tAndV ta tb) env Qx := fun σ R H r Qh k => h σ R H r _ fun v R' H' x r' s' hv ⟨b, e, q1, q2⟩ => by
  subst e
  cases hv
  refine ⟨b, rfl, ?_⟩
  cases b with
  | true =>
    show tb σ H' Qh
    exact q1 rfl σ R' H' r' Qh fun z e R2 H2 x2 r2 s2 hz q => k z e R2 H2 x2 r2 (s'.trans s2) hz q
  | false =>
    show Qh (.bl false) H'
    exact k _ env R' H' (.p (.bl false)) r' s' (At.bl false) (q2 rfl)
theorem vs_retX {te : TE} (h : VEx K G B te env fun _ x => rt x) : VS K G B (tRet te) env nx rt bk ct := fun σ R H r Z _ kr _ _ => h σ R H r _ fun v e R' H' x r' s' hv q => kr v e σ R' H' x r' s' hv q
theorem vs_exprX {te : TE} (h : VEx K G B te env fun e _ => nx e) : VS K G B (tDrop te) env nx rt bk ct := fun σ R H r Z kn _ _ _ => h σ R H r _ fun v e R' H' x r' s' hv q => kn e σ R' H' r' s' q
theorem vs_asgX {i : Nat} {te : TE} (h : VEx K G B te env fun e x => i < e.length ∧ ∃ d, x = .p d ∧ nx (e.set i (.p d))) : VS K G B (tAsg te (gName i)) env nx rt bk ct := fun σ R H r Z kn _ _ _ => h σ R H r _ fun v e R' H' x r' s' hv ⟨hi, d, ex, q⟩ => by
  subst ex
  exact kn _ _ _ _ (r'.set (sl := .p d) (v := v) hi ⟨v, by rw [List.getElem?_set_self (r'.ilt hi)], hv⟩ noOwn_p) s' q
theorem less_none {gs : List (Addr × D)} {b : Addr} (h : b ∈ gs.map (·.1)) : lessG H gs b = none := if_pos h
theorem less_some {gs : List (Addr × D)} {b : Addr} (h : b ∉ gs.map (·.1)) : lessG H gs b = H b := if_neg h
theorem less_of {gs : List (Addr × D)} {b : Addr} {o : HO} (h : lessG H gs b = some o) : b ∉ gs.map (·.1) ∧ H b = some o := by
  unfold lessG at h
  split at h
  · cases h
  · rename_i q
    exact ⟨q, h⟩
/-- what is known, is known without the own lists -/
theorem sub_less (rs : Sub K G R H) {gs : List (Addr × D)} (hg : ∀ q ∈ gs, R q.1 = none ∧ ∃ y, H q.1 = some y ∧ MAt K R y q.2) : Sub K G R (lessG H gs) := fun b x e => by
  have hb : b ∉ gs.map (·.1) := fun hm => by
    obtain ⟨q, hq, rfl⟩ := List.mem_map.mp hm
    rw [(hg q hq).1] at e
    cases e
  refine subAt_go (rs b x e) (less_some hb) fun c o h l => ?_
  rw [less_some]
  · exact h
  · intro hm
    obtain ⟨q, hq, rfl⟩ := List.mem_map.mp hm
    obtain ⟨_, y, h2, h3⟩ := hg q hq
    rw [h] at h2
    cases h2
    rw [hard_ld (mat_ld h3)] at l
    cases l
theorem sub_more {gs : List (Addr × D)} (rs : Sub K G R (lessG H gs)) : Sub K G R H := fun b x e => by
  have hb : b ∉ gs.map (·.1) := fun hm => by
    have := rs.none (less_none (H := H) hm)
    rw [this] at e
    cases e
  exact subAt_go (rs b x e) (less_some hb).symm fun c o h l => (less_of h).2
theorem step_more {gs : List (Addr × D)} (rs : Sub K G R (lessG H gs)) : Step K G R (lessG H gs) R H := ⟨Same.refl R, sub_more rs, fun a y h _ => (less_of h).2, fun a y h _ n => n⟩
/-- a call that changes the lists of a slot -/
theorem vx_callM {j : Nat} {α : Type} {args : α → List D} {own : α → List (Addr × D)} {pre : α → Prop} {post : α → List (Addr × D) → D → Prop} {E : XK} {t : TA}
    (h : VA K G B t env fun xs => ∃ x, xs = (args x).map XV.p ∧ env[j]? = some (.hp (own x)) ∧ pre x ∧ ∀ gs d, gs.map (·.1) = (own x).map (·.1) → post x gs d → Qx (env.set j (.hp gs)) (.p d)) : VEx K G B (tCall (SpM K G args own pre post) [] E t) env Qx := fun σ R H rp Qh k =>
  h σ R H rp _ fun vs R1 H1 xs r1 s1 hv _ ⟨x, e, hj, hp, q⟩ => by
    subst e
    rw [List.append_nil]
    have fact : ∀ q ∈ own x, B.H q.1 = none ∧ R1 q.1 = none ∧ ∃ y, H1 q.1 = some y ∧ MAt K R1 y q.2 := r1.slots j _ hj
    have hg : ∀ q ∈ own x, R1 q.1 = none ∧ ∃ y, H1 q.1 = some y ∧ MAt K R1 y q.2 := fun q hq => (fact q hq).2
    refine ⟨R1, x, ⟨sub_less r1.sub hg, r1.tab'⟩, atL_of hv, hp, hg, fun v R' H' d gs s ha hk hgs hpost => ?_⟩
    have hjl : j < env.length := (List.getElem?_eq_some_iff.mp hj).1
    have ne_own : ∀ {b : Addr} {o : HO}, H1 b = some o → NoOwn env σ b → lessG H1 (own x) b = some o := fun {b} {o} e n => by
      rw [less_some]
      · exact e
      · exact fun hm => n j _ hj hm
    have back : ∀ (i : Nat) sl b, (env.set j (.hp gs))[i]? = some sl → Slot.owns σ[i]? b sl → ∃ s0, env[i]? = some s0 ∧ Slot.owns σ[i]? b s0 := fun i sl b hi o => by
      by_cases e : j = i
      · subst e
        rw [List.getElem?_set_self hjl] at hi
        cases hi
        have o' : b ∈ gs.map (·.1) := o
        rw [hk] at o'
        exact ⟨_, hj, o'⟩
      · rw [List.getElem?_set_ne e] at hi
        exact ⟨sl, hi, o⟩
    have rep : Rep K G B (env.set j (.hp gs)) σ R' H' := {
      sub0 := r1.sub0
      tab := r1.tab
      step := {
        same := r1.step.same.trans s.same
        sub := s.sub
        kept := fun a y e n => by
          have h1 := r1.step.kept a y e n
          refine s.kept a y ?_ (r1.step.nx n e)
          rw [less_some]
          · exact h1
          · intro hm
            obtain ⟨q, hq, rfl⟩ := List.mem_map.mp hm
            rw [(fact q hq).1] at e
            cases e
        out := fun a y e hd n => by
          have h1 := r1.step.kept a y e (no_mk n)
          refine s.out a y ?_ hd (r1.step.out a y e hd n)
          rw [less_some]
          · exact h1
          · intro hm
            obtain ⟨q, hq, rfl⟩ := List.mem_map.mp hm
            rw [(fact q hq).1] at e
            cases e }
      len := by rw [List.length_set]; exact r1.len
      slots := fun i sl hi => by
        by_cases e : j = i
        · subst e
          rw [List.getElem?_set_self hjl] at hi
          cases hi
          intro q hq
          obtain ⟨h1, h2⟩ := hgs q hq
          refine ⟨?_, h1, h2⟩
          have : q.1 ∈ (own x).map (·.1) := by rw [← hk]; exact List.mem_map_of_mem (f := (·.1)) hq
          obtain ⟨p, hp', ep⟩ := List.mem_map.mp this
          rw [← ep]
          exact (fact p hp').1
        · rw [List.getElem?_set_ne e] at hi
          have hs := r1.slots i sl hi
          have ne : ∀ b, Slot.owns σ[i]? b sl → b ∉ (own x).map (·.1) := fun b o hm => r1.dist i j sl _ b (fun z => e z.symm) hi hj o hm
          cases sl with
          | u => trivial
          | p d =>
            obtain ⟨w, h1, h2⟩ := hs
            exact ⟨w, h1, h2.same s.same⟩
          | mu d =>
            obtain ⟨a, y, h1, h2, h3, h4, h5⟩ := hs
            have hl : lessG H1 (own x) a = some y := (less_some (ne a h1)).trans h4
            exact ⟨a, y, h1, h2, s.out a y hl (hard_ld (mat_ld h5)) h3, s.kept a y hl (no_mk h3), h5.same s.same⟩
          | hp hs' =>
            intro g hg'
            obtain ⟨h2, h3, y, h4, h5⟩ := hs g hg'
            have hl : lessG H1 (own x) g.1 = some y := (less_some (ne g.1 (List.mem_map_of_mem (f := (·.1)) hg'))).trans h4
            exact ⟨h2, s.out _ y hl (hard_ld (mat_ld h5)) h3, y, s.kept _ y hl (no_mk h3), h5.same s.same⟩
      dist := fun i k si sk a hik hi hk' o1 o2 => by
        obtain ⟨t1, q1, w1⟩ := back i si a hi o1
        obtain ⟨t2, q2, w2⟩ := back k sk a hk' o2
        exact r1.dist i k t1 t2 a hik q1 q2 w1 w2
      pr := fun q hq => by
        obtain ⟨h1, h2, h3, h4, h5⟩ := r1.pr q hq
        have hl := ne_own h3 h5
        refine ⟨h1, s.out _ _ hl (hard_ld h4) h2, s.kept _ _ hl (no_mk h2), h4, fun i sl hi o => ?_⟩
        obtain ⟨t1, q1, w1⟩ := back i sl _ hi o
        exact h5 i t1 q1 w1 }
    exact k v _ R' H' (.p d) rep (s1.trans s.same) ha (q gs d hk hpost)
/-- f(a, b), b changes lists that are lent to f -/
theorem vx_call2 {α : Type} {fr : Bool} {args : α → List D} {pre : α → Prop} {post : α → D → Prop} {rs : α → Addr → Prop} {X : Addr → Prop} {E : XK} {ta tb : TE} (L : Lets K G B E X)
    (h : VE K G B ta env fun x => ∃ d1, x = .p d1 ∧ VEx K G B tb env fun e y => ∃ d2, y = .p d2 ∧ ∃ x, LentR e [.p d1, .p d2] (args x) ∧ pre x ∧ (∀ C, rs x C → X C) ∧ ∀ d, post x d → D.deepT 9 d = true ∧ Qx e (.p d)) :
    VEx K G B (tCall (SpA K G fr args pre post rs) [] E (tCons ta (tCons tb tNil))) env Qx := fun σ R H rp Qh k =>
  h σ R H rp _ fun v1 R1 H1 x1 r1 s1 hv1 ⟨d1, e1, q1⟩ => by
    subst e1
    refine q1 σ R1 H1 r1 _ fun v2 e R2 H2 y r2 s2 hv2 ⟨d2, e2, x, hl, hp, hr, q⟩ => ?_
    subst e2
    have hvl : VAtL K B e σ R2 H2 [v1, v2] [.p d1, .p d2] := ⟨At.same s2 hv1, hv2, trivial⟩
    show SpA K G fr args pre post rs ([v1, v2] ++ []) H2 Qh E
    rw [List.append_nil]
    exact call_lentR L r2 (lent_atR r2 hl hvl) hp hr (fun d hd => (q d hd).1) fun v R' H' d r' s' ha hd => k v e R' H' (.p d) r' ((s1.trans s2).trans s') ha (q d hd).2
/-! ### a def that changes lists handed in -/
theorem repM_start {N : List Str} {vs : List V} {ds : List D} {gs : List (Addr × D)} (s : Sub K G R (lessG H gs)) (tb : TabIn G R) (h : AtL K R vs ds) (hn : ds.length + 1 ≤ N.length) (hg : ∀ q ∈ gs, R q.1 = none ∧ ∃ y, H q.1 = some y ∧ MAt K R y q.2) :
    Rep K G ⟨R, lessG H gs, []⟩ ((ds.map Slot.p ++ List.replicate (N.length - ds.length) Slot.u).set (N.length - 1) (.hp gs)) (L2.start N vs) R H := by
  have r0 := (rep_start (N := N) s tb h (by omega)).go (step_more s)
  have hl : (ds.map Slot.p ++ List.replicate (N.length - ds.length) Slot.u)[N.length - 1]? = some .u := by
    rw [List.getElem?_append_right (by rw [List.length_map]; omega), List.length_map, List.getElem?_replicate, if_pos (by omega)]
  have fresh : ∀ q ∈ gs, lessG H gs q.1 = none := fun q hq => less_none (List.mem_map_of_mem (f := (·.1)) hq)
  exact r0.toHp hl (fun q hq => ⟨fresh q hq, hg q hq⟩) fun q hq => ⟨(rep_start (N := N) s tb h (by omega)).noslot (fresh q hq), fun p hp => by cases hp⟩
/-- .. whose last statement returns a slot -/
theorem run_defM {α : Type} {args : α → List D} {own : α → List (Addr × D)} {pre : α → Prop} {post : α → List (Addr × D) → D → Prop} {vs : List V} {Q : VK} {E : XK} {t : TS} {i : Nat} {N : List Str}
    (hn : ∀ x, (args x).length + 1 ≤ N.length) {env0 : α → Vn} (he : ∀ x, ((args x).map Slot.p ++ List.replicate (N.length - (args x).length) Slot.u).set (N.length - 1) (.hp (own x)) = env0 x)
    (h : ∀ B x, pre x → VS K G B t (env0 x) (fun e => ∃ gs d, e[i]? = some (.p d) ∧ e[N.length - 1]? = some (.hp gs) ∧ gs.map (·.1) = (own x).map (·.1) ∧ post x gs d) (fun _ => False) (fun _ => False) (fun _ => False))
    (hs : SpM K G args own pre post vs H Q E) : (tSeq t (tRet (tVar i))) { nx := fun _ H' => Q .non H', rt := Q } (L2.start N vs) H := by
  obtain ⟨R, x, ⟨s, tb⟩, ha, hp, hg, q⟩ := hs
  have h := h ⟨R, lessG H (own x), []⟩ x hp
  rw [← he x] at h
  refine h _ R H (repM_start s tb ha (hn x) hg) _ ?_ ?_ ?_ ?_
  · intro e σ' R' H' r _ ⟨gs, d, h1, h2, h3, h4⟩
    obtain ⟨v, g1, g2⟩ := r.slots i _ h1
    refine ⟨v, g1, q v R' H' d gs r.step g2 h3 (fun p hp => ?_) h4⟩
    exact (r.slots _ _ h2 p hp).2
  · intro v e σ' R' H' y r _ hv hq
    exact hq.elim
  · intro e σ' R' H' r _ hq
    exact hq.elim
  · intro e σ' R' H' r _ hq
    exact hq.elim
/-- .. that returns None -/
theorem run_defM0 {α : Type} {args : α → List D} {own : α → List (Addr × D)} {pre : α → Prop} {post : α → List (Addr × D) → D → Prop} {vs : List V} {Q : VK} {E : XK} {t : TS} {N : List Str}
    (hn : ∀ x, (args x).length + 1 ≤ N.length) {env0 : α → Vn} (he : ∀ x, ((args x).map Slot.p ++ List.replicate (N.length - (args x).length) Slot.u).set (N.length - 1) (.hp (own x)) = env0 x)
    (h : ∀ B x, pre x → VS K G B t (env0 x) (fun e => ∃ gs, e[N.length - 1]? = some (.hp gs) ∧ gs.map (·.1) = (own x).map (·.1) ∧ post x gs .non) (fun _ => False) (fun _ => False) (fun _ => False))
    (hs : SpM K G args own pre post vs H Q E) : t { nx := fun _ H' => Q .non H', rt := Q } (L2.start N vs) H := by
  obtain ⟨R, x, ⟨s, tb⟩, ha, hp, hg, q⟩ := hs
  have h := h ⟨R, lessG H (own x), []⟩ x hp
  rw [← he x] at h
  refine h _ R H (repM_start s tb ha (hn x) hg) _ ?_ ?_ ?_ ?_
  · intro e σ' R' H' r _ ⟨gs, h2, h3, h4⟩
    exact q .non R' H' .non gs r.step .non h3 (fun p hp => (r.slots _ _ h2 p hp).2) h4
  · intro v e σ' R' H' y r _ hv hq
    exact hq.elim
  · intro e σ' R' H' r _ hq
    exact hq.elim
  · intro e σ' R' H' r _ hq
    exact hq.elim
theorem spM_len {args : α → List D} {own : α → List (Addr × D)} {pre : α → Prop} {post : α → List (Addr × D) → D → Prop} {E : XK} {n : Nat} (hn : ∀ x, (args x).length = n) {vs : List V} {Q : VK} (h : SpM K G args own pre post vs H Q E) : vs.length = n := by
  obtain ⟨R, x, _, ha, _⟩ := h
  rw [ha.len, hn]
end
end VL

/-! A plain dict is walked: it is locked meanwhile, and what is known ahead of the def is known without it. -/
namespace VL
open PySem L2
def Bs.less (B : Bs) (a : Addr) : Bs := ⟨without B.R a, without B.H a, B.pr⟩
section
variable {K : PySem.W.Frag} {G : Gs} {B : Bs} {env : Vn} {σ : L2.St} {R R' R1 H H' H1 : Hp} {Q : XV → Prop} {nx : Vn → Prop} {rt : XV → Prop} {bk ct : Vn → Prop} {Qx : Vn → XV → Prop}
theorem at_noD {R R' : Hp} (hm : ∀ b y, R b = some y → (∀ u, y ≠ .dK u) → (∀ o u, y ≠ .frz o (.dK u)) → R' b = some y) : ∀ (n : Nat) {v : V} {d : D}, D.noD n d = true → At K R v d → At K R' v d := by
  intro n
  induction n with
  | zero => intro v d h _; cases h
  | succ n ih =>
    intro v d h t
    cases t with
    | non => exact .non
    | bl b => exact .bl b
    | int i => exact .int i
    | str x => exact .str x
    | @tup b xs ds hs ht =>
      refine .tup (xs := xs) ?_ (ht.imp fun v d hm' => ih (List.all_eq_true.mp (show ds.all (D.noD n) = true from h) d hm'))
      rcases hs with (hs | ⟨o, hs⟩) | hs
      · exact .inl (.inl (hm _ _ hs (fun _ z => by cases z) fun _ _ z => by cases z))
      · exact .inl (.inr ⟨o, hm _ _ hs (fun _ z => by cases z) fun _ _ z => by cases z⟩)
      · exact .inr hs
    | @lst b xs ds hs ht => exact .lst (xs := xs) (hm _ _ hs (fun _ z => by cases z) fun _ _ z => by cases z) (ht.imp fun v d hm' => ih (List.all_eq_true.mp (show ds.all (D.noD n) = true from h) d hm'))
    | @ro b xs ds hs ht =>
      refine .ro (xs := xs) ?_ (ht.imp fun v d hm' => ih (List.all_eq_true.mp (show ds.all (D.noD n) = true from h) d hm'))
      rcases hs with (hs | ⟨o, hs⟩) | hs
      · exact .inl (.inl (hm _ _ hs (fun _ z => by cases z) fun _ _ z => by cases z))
      · exact .inl (.inr ⟨o, hm _ _ hs (fun _ z => by cases z) fun _ _ z => by cases z⟩)
      · exact .inr hs
    | dct _ _ => cases h
    | lkd _ _ => cases h
    | ty n => exact .ty n
    | st hs => exact .st (hm _ _ hs (fun _ z => by cases z) fun _ _ z => by cases z)
    | ptr b => exact .ptr b
    | cm hs => exact .cm (hm _ _ hs (fun _ z => by cases z) fun _ _ z => by cases z)
theorem atD_noD {R R' : Hp} (hm : ∀ b y, R b = some y → (∀ u, y ≠ .dK u) → (∀ o u, y ≠ .frz o (.dK u)) → R' b = some y) {n : Nat} {vs : List (Key × V)} {ds : List (Key × D)} (h : (ds.all fun p => D.noD n p.2) = true) (t : AtD K R vs ds) : AtD K R' vs ds :=
  t.imp fun v d hd => at_noD hm n (by
    obtain ⟨p, hp, rfl⟩ := List.mem_map.mp hd
    exact List.all_eq_true.mp h p hp)
theorem mat_noD {R R' : Hp} (hm : ∀ b y, R b = some y → (∀ u, y ≠ .dK u) → (∀ o u, y ≠ .frz o (.dK u)) → R' b = some y) {y : HO} {d : D} (h : Slot.noD0 d = true) (t : MAt K R y d) : MAt K R' y d := by
  cases y <;> cases d <;> first
    | exact t.elim
    | exact AtL.imp t fun v d hd => at_noD hm 9 (List.all_eq_true.mp h d hd)
    | exact atD_noD hm (n := 9) h t
theorem slot_noD {R R' : Hp} {H H' : Hp} {B B' : Bs} (hm : ∀ b y, R b = some y → (∀ u, y ≠ .dK u) → (∀ o u, y ≠ .frz o (.dK u)) → R' b = some y) {i : Nat} {sl : Slot} (h : sl.noD = true) (t : SlotAt K B R H σ i sl)
    (ho : ∀ b y, Slot.owns σ[i]? b sl → B.H b = none → R b = none → H b = some y → B'.H b = none ∧ R' b = none ∧ H' b = some y) : SlotAt K B' R' H' σ i sl := by
  cases sl with
  | u => trivial
  | p d =>
    obtain ⟨v, g1, g2⟩ := t
    exact ⟨v, g1, at_noD hm 9 h g2⟩
  | mu d =>
    obtain ⟨b, y, g1, g2, g3, g4, g5⟩ := t
    obtain ⟨k1, k2, k3⟩ := ho b y g1 g2 g3 g4
    exact ⟨b, y, g1, k1, k2, k3, mat_noD hm (by cases d <;> first | exact h | cases h) g5⟩
  | hp gs =>
    refine fun g hg => ?_
    obtain ⟨g2, g3, y, g4, g5⟩ := t g hg
    obtain ⟨k1, k2, k3⟩ := ho g.1 y (List.mem_map_of_mem (f := (·.1)) hg) g2 g3 g4
    exact ⟨k1, k2, y, k3, mat_noD hm (List.all_eq_true.mp h g hg) g5⟩
/-- what is known of the dict ahead of the def -/
theorem Rep.ahead (r : Rep K G B env σ R H) {a : Addr} {xs : List (Key × V)} (hR : R a = some (.dK xs)) : (∀ y, B.R a = some y → y = .dK xs) ∧ ∀ y, B.H a = some y → y = .dK xs ∧ B.R a = some (.dK xs) := by
  have h1 : ∀ y, B.R a = some y → y = .dK xs := fun y e => by
    have := r.step.same a y e
    rw [hR] at this
    exact (Option.some.inj this).symm
  have hH := r.sub.of hR rfl
  refine ⟨h1, fun y e => ?_⟩
  cases q : B.R a with
  | some z =>
    have ez := h1 z q
    subst ez
    have := r.sub0.of q rfl
    rw [e] at this
    exact ⟨Option.some.inj this, rfl⟩
  | none =>
    have k := r.step.kept a y e (no_mk q)
    rw [hH] at k
    cases k
    have := r.step.out a _ e rfl q
    rw [hR] at this
    cases this
theorem Rep.lockP (r : Rep K G B env σ R H) {i : Nat} {a : Addr} {o : Obj} {xs : List (Key × V)} {ds : List (Key × D)} (hd : env[i]? = some (.p (.dct ds))) (h1 : σ[i]? = some (some (.ref a))) (hR : R a = some (.dK xs)) (hA : AtD K R xs ds) (hds : (ds.all fun p => D.noD 9 p.2) = true) (hn : ∀ (j : Nat) s, j ≠ i → env[j]? = some s → s.noD = true) :
    Rep K G (B.less a) (env.set i (.p (.lkd a ds))) σ (upd R a (.frz o (.dK xs))) (upd H a (.frz o (.dK xs))) := by
  obtain ⟨hBR, hBH⟩ := r.ahead hR
  have hH := r.sub.of hR rfl
  have hi := (List.getElem?_eq_some_iff.mp hd).1
  have hm : ∀ b y, R b = some y → (∀ u, y ≠ .dK u) → (∀ o u, y ≠ .frz o (.dK u)) → (upd R a (.frz o (.dK xs))) b = some y := fun b y e n _ => by
    rw [upd_ne]
    · exact e
    · rintro rfl
      rw [hR] at e
      cases e
      exact n _ rfl
  have nea : ∀ {b : Addr}, R b = none → b ≠ a := fun e z => by rw [z, hR] at e; cases e
  have lessH : ∀ {b : Addr} {y : HO}, (B.less a).H b = some y → b ≠ a ∧ B.H b = some y := fun {b} {y} e => by
    have e : without B.H a b = some y := e
    by_cases q : b = a
    · rw [q, without_same] at e
      cases e
    · rw [without_ne q] at e
      exact ⟨q, e⟩
  have lessR : ∀ {b : Addr} {y : HO}, (B.less a).R b = some y → b ≠ a ∧ B.R b = some y := fun {b} {y} e => by
    have e : without B.R a b = some y := e
    by_cases q : b = a
    · rw [q, without_same] at e
      cases e
    · rw [without_ne q] at e
      exact ⟨q, e⟩
  have noown : ∀ (j : Nat) sl b, (env.set i (.p (.lkd a ds)))[j]? = some sl → Slot.owns σ[j]? b sl → j ≠ i ∧ env[j]? = some sl := fun j sl b hj ow => by
    by_cases e : i = j
    · subst e
      rw [List.getElem?_set_self hi] at hj
      cases hj
      exact ow.elim
    · rw [List.getElem?_set_ne e] at hj
      exact ⟨fun z => e z.symm, hj⟩
  exact {
    sub0 := fun b x e => by
      obtain ⟨n, e⟩ := lessR e
      refine subAt_go (r.sub0 b x e) (without_ne n) fun c u hc l => ?_
      have : c ≠ a := fun z => by
        subst z
        have := (hBH u hc).1
        subst this
        cases l
      show without B.H a c = some u
      rw [without_ne this]
      exact hc
    tab := fun P e => by
      obtain ⟨ps, h⟩ := r.tab P e
      refine ⟨ps, ?_⟩
      show without B.R a P = _
      rw [without_ne]
      · exact h
      · rintro rfl
        have := hBR _ h
        cases this
    step := {
      same := fun b x e => by
        obtain ⟨n, e⟩ := lessR e
        rw [upd_ne n]
        exact r.step.same b x e
      sub := fun b x e => by
        by_cases q : b = a
        · subst q
          rw [upd_same] at e
          cases e
          exact subAt_of upd_same rfl
        · rw [upd_ne q] at e
          exact subAt_go (r.step.sub b x e) (upd_ne q) (hard_upd fun u z => by rw [hH] at z; cases z; rfl)
      kept := fun b y e n => by
        obtain ⟨q, e⟩ := lessH e
        rw [upd_ne q]
        refine r.step.kept b y e fun m z => n m ?_
        show without B.R a b = _
        rw [without_ne q]
        exact z
      out := fun b y e hd n => by
        obtain ⟨q, e⟩ := lessH e
        rw [upd_ne q]
        refine r.step.out b y e hd ?_
        have n : without B.R a b = none := n
        rw [without_ne q] at n
        exact n }
    len := by rw [List.length_set]; exact r.len
    slots := fun j sl hj => by
      by_cases e : i = j
      · subst e
        rw [List.getElem?_set_self hi] at hj
        cases hj
        exact ⟨.ref a, h1, .lkd upd_same (atD_noD hm hds hA)⟩
      · rw [List.getElem?_set_ne e] at hj
        refine slot_noD hm (hn j sl (fun z => e z.symm) hj) (r.slots j sl hj) fun b y ow b1 b2 b3 => ?_
        have q := nea b2
        exact ⟨by show without B.H a b = none; rw [without_ne q]; exact b1, by rw [upd_ne q]; exact b2, by rw [upd_ne q]; exact b3⟩
    dist := fun j k sj sk b hjk hj hk o1 o2 => by
      obtain ⟨_, hj⟩ := noown j sj b hj o1
      obtain ⟨_, hk⟩ := noown k sk b hk o2
      exact r.dist j k sj sk b hjk hj hk o1 o2
    pr := fun q hq => by
      obtain ⟨g1, g2, g3, g4, g5⟩ := r.pr q hq
      have e := nea g2
      exact ⟨by show without B.H a q.1 = none; rw [without_ne e]; exact g1, by rw [upd_ne e]; exact g2, by rw [upd_ne e]; exact g3, g4, fun j sl hj ow => g5 j sl (noown j sl _ hj ow).2 ow⟩ }
theorem Rep.unlockP {e : Vn} {σ' : L2.St} (r : Rep K G (B.less a) e σ' R' H') (s0 : Sub K G B.R B.H) (tb : ∀ P, G.tab = some P → ∃ ps, B.R P = some (.tbl ps)) {i : Nat} {o : Obj} {xs : List (Key × V)} {ds : List (Key × D)} (hd : e[i]? = some (.p (.lkd a ds))) (hR : R' a = some (.frz o (.dK xs))) (hBR : ∀ y, B.R a = some y → y = .dK xs) (hBH : ∀ y, B.H a = some y → y = .dK xs ∧ B.R a = some (.dK xs))
    (hA : AtD K (upd R' a (.dK xs)) xs ds) (hn : ∀ (j : Nat) s, j ≠ i → e[j]? = some s → s.noD = true) : Rep K G B (e.set i (.p (.dct ds))) σ' (upd R' a (.dK xs)) (upd H' a (.dK xs)) := by
  have hH := r.sub.of hR rfl
  have hi := (List.getElem?_eq_some_iff.mp hd).1
  have h1 : σ'[i]? = some (some (.ref a)) := by
    obtain ⟨v, g1, g2⟩ := r.slots i _ hd
    cases g2
    exact g1
  have hm : ∀ b y, R' b = some y → (∀ u, y ≠ .dK u) → (∀ o u, y ≠ .frz o (.dK u)) → (upd R' a (.dK xs)) b = some y := fun b y e _ n => by
    rw [upd_ne]
    · exact e
    · rintro rfl
      rw [hR] at e
      cases e
      exact n _ _ rfl
  have nea : ∀ {b : Addr}, R' b = none → b ≠ a := fun e z => by rw [z, hR] at e; cases e
  have noown : ∀ (j : Nat) sl b, (e.set i (.p (.dct ds)))[j]? = some sl → Slot.owns σ'[j]? b sl → j ≠ i ∧ e[j]? = some sl := fun j sl b hj ow => by
    by_cases q : i = j
    · subst q
      rw [List.getElem?_set_self hi] at hj
      cases hj
      exact ow.elim
    · rw [List.getElem?_set_ne q] at hj
      exact ⟨fun z => q z.symm, hj⟩
  have backH : ∀ {b : Addr} {y : HO}, B.H b = some y → b ≠ a → (B.less a).H b = some y := fun e q => (without_ne q).trans e
  exact {
    sub0 := s0
    tab := tb
    step := {
      same := fun b x e => by
        by_cases q : b = a
        · subst q
          rw [hBR x e]
          exact upd_same
        · rw [upd_ne q]
          exact r.step.same b x ((without_ne q).trans e)
      sub := fun b x e => by
        by_cases q : b = a
        · subst q
          rw [upd_same] at e
          cases e
          exact subAt_of upd_same rfl
        · rw [upd_ne q] at e
          exact subAt_go (r.step.sub b x e) (upd_ne q) (hard_upd fun u z => by rw [hH] at z; cases z; rfl)
      kept := fun b y e n => by
        by_cases q : b = a
        · subst q
          rw [(hBH y e).1]
          exact upd_same
        · rw [upd_ne q]
          refine r.step.kept b y (backH e q) fun m z => n m ?_
          have z : without B.R a b = some m := z
          rw [without_ne q] at z
          exact z
      out := fun b y e hd n => by
        by_cases q : b = a
        · subst q
          rw [(hBH y e).2] at n
          cases n
        · rw [upd_ne q]
          exact r.step.out b y (backH e q) hd ((without_ne q).trans n) }
    len := by rw [List.length_set]; exact r.len
    slots := fun j sl hj => by
      by_cases q : i = j
      · subst q
        rw [List.getElem?_set_self hi] at hj
        cases hj
        exact ⟨.ref a, h1, .dct upd_same hA⟩
      · rw [List.getElem?_set_ne q] at hj
        refine slot_noD hm (hn j sl (fun z => q z.symm) hj) (r.slots j sl hj) fun b y ow b1 b2 b3 => ?_
        have w := nea b2
        have b1 : without B.H a b = none := b1
        rw [without_ne w] at b1
        exact ⟨b1, by rw [upd_ne w]; exact b2, by rw [upd_ne w]; exact b3⟩
    dist := fun j k sj sk b hjk hj hk o1 o2 => by
      obtain ⟨_, hj⟩ := noown j sj b hj o1
      obtain ⟨_, hk⟩ := noown k sk b hk o2
      exact r.dist j k sj sk b hjk hj hk o1 o2
    pr := fun q hq => by
      obtain ⟨g1, g2, g3, g4, g5⟩ := r.pr q hq
      have w := nea g2
      have g1 : without B.H a q.1 = none := g1
      rw [without_ne w] at g1
      exact ⟨g1, by rw [upd_ne w]; exact g2, by rw [upd_ne w]; exact g3, g4, fun j sl hj ow => g5 j sl (noown j sl _ hj ow).2 ow⟩ }
/-- a statement that walks a plain dict; nothing is returned from within -/
theorem vs_lockP {i : Nat} {t : TS} {ds : List (Key × D)} (hd : env[i]? = some (.p (.dct ds))) (hds : (ds.all fun p => D.noD 9 p.2) = true) (hn : ((env.set i .u).all Slot.noD) = true)
    (h : ∀ a, VS K G (B.less a) t (env.set i (.p (.lkd a ds))) (fun e => Unl i a ds e ∧ nx (e.set i (.p (.dct ds)))) (fun x => False) (fun e => Unl i a ds e ∧ bk (e.set i (.p (.dct ds)))) (fun e => Unl i a ds e ∧ ct (e.set i (.p (.dct ds))))) :
    VS K G B (tLock t) env nx rt bk ct := fun σ R H r Z kn kr kb kc => by
  obtain ⟨v, h1, hv⟩ := r.slots i _ hd
  cases hv with
  | @dct a xs _ hR hA =>
  have hH := r.sub.of hR rfl
  refine ⟨a, .dK xs, hH, trivial, fun o => ?_⟩
  obtain ⟨hBR, hBH⟩ := r.ahead hR
  have hi := (List.getElem?_eq_some_iff.mp hd).1
  have others : ∀ (j : Nat) s, j ≠ i → env[j]? = some s → s.noD = true := fun j s hj hs => List.all_eq_true.mp hn s (by
    refine List.mem_of_getElem? (i := j) ?_
    rw [List.getElem?_set_ne (Ne.symm hj)]
    exact hs)
  have r1 := r.lockP (o := o) hd h1 hR hA hds others
  have fin : ∀ {e : Vn} {σ' R' H'}, Rep K G (B.less a) e σ' R' H' → Same (upd R a (.frz o (.dK xs))) R' → Unl i a ds e → H' a = some (.frz o (.dK xs)) ∧ Rep K G B (e.set i (.p (.dct ds))) σ' (upd R' a (.dK xs)) (upd H' a (.dK xs)) ∧ Same R (upd R' a (.dK xs)) := fun {e} {σ'} {R'} {H'} r' s' u => by
    have k1 : R' a = some (.frz o (.dK xs)) := s' a _ upd_same
    have sm : Same R (upd R' a (.dK xs)) := fun b x e => by
      by_cases q : b = a
      · subst q
        rw [hR] at e
        cases e
        exact upd_same
      · rw [upd_ne q]
        exact s' b x (by rw [upd_ne q]; exact e)
    exact ⟨r'.sub.of k1 rfl, r'.unlockP r.sub0 r.tab u.1 k1 hBR hBH (hA.same sm) u.2, sm⟩
  refine h a σ _ _ r1 _ (fun e σ' R' H' r' s' ⟨u, q⟩ => ?_) (fun v e σ' R' H' x r' s' hv q => q.elim) (fun e σ' R' H' r' s' ⟨u, q⟩ => ?_) (fun e σ' R' H' r' s' ⟨u, q⟩ => ?_)
  · obtain ⟨f1, f2, f3⟩ := fin r' s' u
    exact ⟨f1, kn _ σ' _ _ f2 f3 q⟩
  · obtain ⟨f1, f2, f3⟩ := fin r' s' u
    exact ⟨f1, kb _ σ' _ _ f2 f3 q⟩
  · obtain ⟨f1, f2, f3⟩ := fin r' s' u
    exact ⟨f1, kc _ σ' _ _ f2 f3 q⟩
theorem seq_assoc (A C D : TS) : tSeq A (tSeq C D) = tSeq (tSeq A C) D := rfl
/-- as run_defM, the slot an own object -/
theorem run_defMo {α : Type} {args : α → List D} {own : α → List (Addr × D)} {pre : α → Prop} {post : α → List (Addr × D) → D → Prop} {vs : List V} {Q : VK} {E : XK} {t : TS} {i : Nat} {N : List Str} (hi : i ≠ N.length - 1)
    (hn : ∀ x, (args x).length + 1 ≤ N.length) {env0 : α → Vn} (he : ∀ x, ((args x).map Slot.p ++ List.replicate (N.length - (args x).length) Slot.u).set (N.length - 1) (.hp (own x)) = env0 x)
    (h : ∀ B x, pre x → VS K G B t (env0 x) (fun e => ∃ gs d, e[i]? = some (.mu d) ∧ e[N.length - 1]? = some (.hp gs) ∧ gs.map (·.1) = (own x).map (·.1) ∧ post x gs d) (fun _ => False) (fun _ => False) (fun _ => False))
    (hs : SpM K G args own pre post vs H Q E) : (tSeq t (tRet (tVar i))) { nx := fun _ H' => Q .non H', rt := Q } (L2.start N vs) H := by
  obtain ⟨R, x, ⟨s, tb⟩, ha, hp, hg, q⟩ := hs
  have h := h ⟨R, lessG H (own x), []⟩ x hp
  rw [← he x] at h
  refine h _ R H (repM_start s tb ha (hn x) hg) _ ?_ ?_ ?_ ?_
  · intro e σ' R' H' r s' ⟨gs, d, h1, h2, h3, h4⟩
    obtain ⟨a, y, g1, g2, g3, g4, g5⟩ := r.slots i _ h1
    have ow : Slot.owns σ'[i]? a (.mu d) := g1
    have r2 := (r.forget i).take g4 (mat_mk g5) g2 g3 (r.noown h1 ow) (r.nopr' h1 ow)
    have h2' : (e.set i .u)[N.length - 1]? = some (.hp gs) := by rw [List.getElem?_set_ne hi]; exact h2
    refine ⟨.ref a, g1, q (.ref a) (upd R' a y) H' d gs r2.step (At.of_mat g5 g3) h3 (fun p hp => ?_) h4⟩
    exact (r2.slots _ _ h2' p hp).2
  · intro v e σ' R' H' y r _ hv hq
    exact hq.elim
  · intro e σ' R' H' r _ hq
    exact hq.elim
  · intro e σ' R' H' r _ hq
    exact hq.elim
end
end VL

/-! Defs in local names: for deed in (f, g): deed(x). -/
namespace VL
open PySem PySem.Spec PyProof.Rows L2
/-- some defs, each with its promise -/
def Cals (P : Program) (w : World) (K : PySem.W.Frag) (mg : Str → Option Value) (base : Heap) (j : Nat) (l : List (Str × Sp)) : Prop := ∀ p ∈ l, ∃ k, k ≤ j ∧ Cal P w K mg base k p.1 p.2 []
theorem cals_nil {P : Program} {w : World} {K : PySem.W.Frag} {mg : Str → Option Value} {base : Heap} {j : Nat} : Cals P w K mg base j [] := fun p hp => by cases hp
theorem cals_cons {P : Program} {w : World} {K : PySem.W.Frag} {mg : Str → Option Value} {base : Heap} {j k : Nat} {x : Str} {sp : Sp} {l : List (Str × Sp)} (c : Cal P w K mg base k x sp []) (hk : k ≤ j) (r : Cals P w K mg base j l) :
    Cals P w K mg base j ((x, sp) :: l) := fun p hp => by
  rcases List.mem_cons.mp hp with rfl | hp
  · exact ⟨k, hk, c⟩
  · exact r p hp
def inDefs (mg : Str → Option Value) (l : List (Str × Sp)) (f : Addr) (sp : Sp) : Prop := ∃ p ∈ l, mg p.1 = some (.ref f) ∧ sp = p.2
/-- f(..), the i-th slot holds a def of some -/
def tCallR (i : Nat) (D : Addr → Sp → Prop) (t : TA) : TE := fun σ H Q => ∃ f sp, σ[i]? = some (some (.ref f)) ∧ D f sp ∧ tCall sp [] E0 t σ H Q
def tDef (mg : Str → Option Value) (x : Str) : TE := fun σ H Q => ∃ f, mg x = some (.ref f) ∧ Q (.ref f) H
section
variable {X : Cx} {i j : Nat} {x : Str} {p pos : Pos} {e : Expr} {es : List Expr} {t : TA} {l : List (Str × Sp)}
theorem pe_callR (A : Cals X.prog X.w X.K X.mg X.base j l) (hr : Room j X.A) (hN : X.N[i]? = some x) (hv : Vis X.env.scope x) (ha : PA X (e :: es) t)
    (hdb : (x == ("__debug__" : Str)) = false := by decide) (hcd : (x == ("__classdict__" : Str)) = false := by decide)
    (he : starEach (e :: es) X.env = (false, eval e X.env) :: starEach es X.env := by rfl) (hpl : (backTo pos (starEach es X.env)).any (·.1) = false := by rfl) : PE X (.Call (.Name x p) (e :: es) [] pos) (tCallR i (inDefs X.mg l) t) := by
  refine ⟨fun pins s σ H Q I h => ?_⟩
  obtain ⟨f, sp, hs, ⟨q, hq, hm, rfl⟩, ht⟩ := h
  obtain ⟨k, hk, c⟩ := A q hq
  obtain ⟨f', fd, ps, ds, F, hm', kp, b, d⟩ := c.ex
  have ef : f' = f := by
    rw [hm] at hm'
    cases hm'
    rfl
  subst ef
  exact (pe_callL (i := i) (f := f') (sp := q.2) (dvs := []) (E := E0) F (hr.mono hk) hN hv kp b d pass0 ha hdb hcd he hpl).run pins s σ H Q I ⟨hs, ht⟩
theorem pe_def (hg : Gl X x) (hd : (x == ("__debug__" : Str)) = false := by decide) : PE X (.Name x p) (tDef X.mg x) := ⟨fun pins s σ H Q I ⟨f, hm, q⟩ => (pe_glob (v := .ref f) hg hm rfl hd).run pins s σ H Q I q⟩
end
section
variable {K : PySem.W.Frag} {G : Gs} {B : Bs} {env : Vn} {Q : XV → Prop} {mg : Str → Option Value}
theorem Cal.at' {P : Program} {w : World} {base : Heap} {k : Nat} {x : Str} {sp : Sp} {dvs : List V} (c : Cal P w K mg base k x sp dvs) {R : Addr → Prop} (h : ∀ f, mg x = some (.ref f) → R f) : ∃ f, mg x = some (.ref f) ∧ R f := by
  obtain ⟨f, _, _, _, _, hm, _⟩ := c.ex
  exact ⟨f, hm, h f hm⟩
theorem ve_def {x : Str} (h : ∃ f, mg x = some (.ref f) ∧ Q (.p (.ptr f))) : VE K G B (tDef mg x) env Q := fun σ R H r Qh k => by
  obtain ⟨f, hm, q⟩ := h
  exact ⟨f, hm, k _ R H (.p (.ptr f)) r (Same.refl R) (.ptr f) q⟩
theorem ve_callR {i : Nat} {l : List (Str × Sp)} {f : Addr} {x : Str} {sp : Sp} {t : TA} (hd : env[i]? = some (.p (.ptr f))) (hl : (x, sp) ∈ l) (hm : mg x = some (.ref f)) (h : VE K G B (tCall sp [] E0 t) env Q) : VE K G B (tCallR i (inDefs mg l) t) env Q := fun σ R H r Qh k => by
  obtain ⟨v, h1, h2⟩ := r.slots i _ hd
  rw [ptr_at h2] at h1
  exact ⟨f, sp, h1, ⟨_, hl, hm, rfl⟩, h σ R H r Qh k⟩
variable {nx : Vn → Prop} {rt : XV → Prop} {bk ct : Vn → Prop} {σ : L2.St} {R H : Hp}
theorem Rep.redo (r : Rep K G B env σ R H) {i : Nat} {d : D} {v : V} (hi : i < env.length) (h1 : σ[i]? = some (some v)) (h2 : At K R v d) : Rep K G B (env.set i (.p d)) σ R H := by
  have e : σ.set i (some v) = σ := by
    have hs := (List.getElem?_eq_some_iff.mp h1).1
    refine List.ext_getElem? fun j => ?_
    by_cases q : i = j
    · subst q
      rw [List.getElem?_set_self hs, h1]
    · rw [List.getElem?_set_ne q]
  have := r.set (i := i) (sl := .p d) (v := v) hi ⟨v, by rw [e]; exact h1, h2⟩ (fun a o => o.elim)
  rw [e] at this
  exact this
/-- what a slot holds is not looked at in a statement -/
theorem vs_hide (i : Nat) {t : TS} {ds : List (Key × D)} (hd : env[i]? = some (.p (.dct ds))) (h : ∀ a, VS K G B t (env.set i (.p (.ptr a))) (fun e => e[i]? = some (.p (.ptr a)) ∧ nx (e.set i (.p (.dct ds)))) rt (fun e => e[i]? = some (.p (.ptr a)) ∧ bk (e.set i (.p (.dct ds)))) (fun e => e[i]? = some (.p (.ptr a)) ∧ ct (e.set i (.p (.dct ds))))) :
    VS K G B t env nx rt bk ct := fun σ R H r Z kn kr kb kc => by
  obtain ⟨v, h1, h2⟩ := r.slots i _ hd
  have hi := (List.getElem?_eq_some_iff.mp hd).1
  cases h2 with
  | @dct a xs _ hR hA =>
  have back : ∀ {e : Vn} {σ' : L2.St} {R' H' : Hp}, Rep K G B e σ' R' H' → Same R R' → e[i]? = some (.p (.ptr a)) → Rep K G B (e.set i (.p (.dct ds))) σ' R' H' := fun {e} {σ'} {R'} {H'} r' s' he => by
    obtain ⟨w, w1, w2⟩ := r'.slots i _ he
    rw [ptr_at w2] at w1
    exact r'.redo (List.getElem?_eq_some_iff.mp he).1 w1 ((At.dct hR hA).same s')
  exact h a σ R H (r.redo hi h1 (.ptr a)) Z (fun e σ' R' H' r' s' ⟨u, q⟩ => kn _ σ' R' H' (back r' s' u) s' q) kr (fun e σ' R' H' r' s' ⟨u, q⟩ => kb _ σ' R' H' (back r' s' u) s' q) (fun e σ' R' H' r' s' ⟨u, q⟩ => kc _ σ' R' H' (back r' s' u) s' q)
end
end VL

/-! ### the draws: a list of whole numbers, one at least -/
namespace N
open PySem L2 VL
def GoodSt1 (ns : List Int) : Prop := ns ≠ [] ∧ ns.length ≤ 100
end N

namespace N
open PySem L2 VL
def soFar : Int → List Int → List Int
  | _, [] => []
  | t, x :: r => (t + x) :: soFar (t + x) r
theorem soFar_app : ∀ (t : Int) (l : List Int) (x : Int), soFar t (l ++ [x]) = soFar t l ++ [t + l.sum + x]
  | t, [], x => by simp [soFar]
  | t, y :: r, x => by
    rw [List.cons_append, soFar, soFar, soFar_app (t + y) r x, List.sum_cons, List.cons_append]
    congr 3
    omega
theorem soFar_len : ∀ (t : Int) (l : List Int), (soFar t l).length = l.length
  | _, [] => rfl
  | t, x :: r => by rw [soFar, List.length_cons, List.length_cons, soFar_len]
theorem take_one {α : Type} {l : List α} {i : Nat} {x : α} (h : l[i]? = some x) : l.take (i + 1) = l.take i ++ [x] := by
  rw [List.take_add_one, h]
  rfl
theorem map_get {α β : Type} {f : α → β} {l : List α} {i : Nat} {d : β} (h : (l.map f)[i]? = some d) : ∃ x, l[i]? = some x ∧ d = f x := by
  rw [List.getElem?_map] at h
  cases e : l[i]? with
  | none =>
    rw [e] at h
    cases h
  | some x =>
    rw [e] at h
    exact ⟨x, rfl, (Option.some.inj h).symm⟩
theorem lt_of_get {α : Type} {l : List α} {i : Nat} {x : α} (h : l[i]? = some x) : i < l.length := (List.getElem?_eq_some_iff.mp h).1
end N

--@uses draw1 so_far
namespace N
open PySem L2 VL
abbrev Tm := Option Int × Int × Int
def oi : Option Int → D
  | none => .non
  | some i => .int i
def tmD (t : Tm) : D := .tup [oi t.1, .int t.2.1, .int t.2.2]
/-- the terms of a day as the laws draw them -/
structure TermOk (t : Tm) : Prop where
  s : ∀ x, t.1 = some x → 0 ≤ x ∧ x < 160
  p0 : 0 ≤ t.2.1
  p1 : t.2.1 < 40
  k0 : 0 ≤ t.2.2
  k1 : t.2.2 < 40
theorem pick2k {a b : D} {k : Int} (h0 : 0 ≤ k) (h1 : k < 2) : ∃ d, atI [a, b] k = some d ∧ (d = a ∨ d = b) := by
  have h : k = 0 ∨ k = 1 := by omega
  rcases h with h | h <;> rw [h]
  · exact ⟨a, atI_nat (j := 0) rfl, .inl rfl⟩
  · exact ⟨b, atI_nat (j := 1) rfl, .inr rfl⟩
theorem pick3k {a b c : D} {k : Int} (h0 : 0 ≤ k) (h1 : k < 3) : ∃ d, atI [a, b, c] k = some d ∧ (d = a ∨ d = b ∨ d = c) := by
  have h : k = 0 ∨ k = 1 ∨ k = 2 := by omega
  rcases h with h | h | h <;> rw [h]
  · exact ⟨a, atI_nat (j := 0) rfl, .inl rfl⟩
  · exact ⟨b, atI_nat (j := 1) rfl, .inr (.inl rfl)⟩
  · exact ⟨c, atI_nat (j := 2) rfl, .inr (.inr rfl)⟩
theorem cons_of_ne {α : Type} {l : List α} (h : l ≠ []) : ∃ x r, l = x :: r := by
  cases l with
  | nil => exact absurd rfl h
  | cons x r => exact ⟨x, r, rfl⟩
/-- what is wanted where nothing can be ordered is nought -/
def Served (ts : List Tm) (ws : List Int) : Prop := ∀ (i : Nat) (w : Int), ws[i]? = some w → w ≠ 0 → ∃ (j : Nat) (t : Tm), j ≤ i ∧ ts[j]? = some t ∧ t.1 ≠ none
structure WantOk (ws : List Int) : Prop where
  b : ∀ w ∈ ws, 0 ≤ w ∧ w < 10 ^ 41
theorem oi_isN (s : Option Int) : (oi s).isNon = s.isNone := by cases s <;> rfl
theorem hu1 {env : Vn} {v : Nat} (h : env[v]? = some .u) : ∀ w ∈ [v], env[w]? = some .u := fun w hw => by
  cases List.mem_singleton.mp hw
  exact h
theorem hu2 {env : Vn} {v u : Nat} (h : env[v]? = some .u) (h2 : env[u]? = some .u) : ∀ w ∈ [v, u], env[w]? = some .u := fun w hw => by
  rcases List.mem_cons.mp hw with rfl | hw
  · exact h
  · exact hu1 h2 w hw
theorem hu3 {env : Vn} {v u t : Nat} (h : env[v]? = some .u) (h2 : env[u]? = some .u) (h3 : env[t]? = some .u) : ∀ w ∈ [v, u, t], env[w]? = some .u := fun w hw => by
  rcases List.mem_cons.mp hw with rfl | hw
  · exact h
  · exact hu2 h2 h3 w hw
theorem sIx_end (n d : Nat) : HT.sIx n d none = d := rfl
theorem cutD_mid {α : Type} (f : α → D) (l : List α) {a b : Int} (ha : 0 ≤ a) (hb : 0 ≤ b) : cutD (l.map f) (some a) (some b) = ((l.take b.toNat).drop a.toNat).map f := by
  unfold cutD
  rw [List.length_map, sIx_nn ha, sIx_nn hb, ← List.map_drop, ← List.map_take, List.drop_take]
  congr 1
  by_cases h : a.toNat ≤ l.length
  · rw [Nat.min_eq_left h]
    by_cases h2 : b.toNat ≤ l.length
    · rw [Nat.min_eq_left h2]
    · rw [Nat.min_eq_right (by omega), List.take_of_length_le (by rw [List.length_drop]; omega), List.take_of_length_le (by rw [List.length_drop]; omega)]
  · rw [Nat.min_eq_right (a := a.toNat) (b := l.length) (by omega), List.drop_of_length_le (Nat.le_refl _), List.drop_of_length_le (by omega), List.take_nil, List.take_nil]
theorem cutD_take {α : Type} (f : α → D) (l : List α) {b : Int} (hb : 0 ≤ b) : cutD (l.map f) none (some b) = (l.take b.toNat).map f := by
  have h := cutD_mid f l (a := 0) (Int.le_refl 0) hb
  rw [show (0 : Int).toNat = 0 from rfl, List.drop_zero] at h
  exact h
theorem cutD_drop {α : Type} (f : α → D) (l : List α) {a : Int} (ha : 0 ≤ a) : cutD (l.map f) (some a) none = (l.drop a.toNat).map f := by
  have h := cutD_mid f l (a := a) (b := l.length) ha (by omega)
  rw [Int.toNat_natCast, List.take_length] at h
  rw [← h]
  unfold cutD
  rw [List.length_map, sIx_nn (k := (l.length : Int)) (by omega), sIx_end, Int.toNat_natCast, Nat.min_self]
theorem ixN_nat {n j : Nat} (h : j < n) : ixN n (j : Int) = some j := by
  unfold ixN
  rw [if_pos (by omega), if_pos (by omega)]
  simp
theorem atI_get {α : Type} (f : α → D) {l : List α} {j : Nat} {x : α} (h : l[j]? = some x) : atI (l.map f) (j : Int) = some (f x) := atI_nat (by rw [List.getElem?_map, h]; rfl)
theorem cmpN_list {n : Nat} {ds : List D} (h : ∀ d ∈ ds, D.cmpN n d = true) : D.cmpN (n + 1) (.lst ds) = true := by
  show ds.all (D.cmpN n) = true
  exact List.all_eq_true.mpr h
theorem cmpN_tm (n : Nat) (t : Tm) : D.cmpN (n + 2) (tmD t) = true := by
  obtain ⟨s, p, k⟩ := t
  cases s <;> rfl
theorem cmpN_tms (n : Nat) (ts : List Tm) : D.cmpN (n + 3) (.lst (ts.map tmD)) = true := cmpN_list fun d hd => by
  obtain ⟨t, _, rfl⟩ := List.mem_map.mp hd
  exact cmpN_tm n t
end N

--@uses terms
namespace N
open PySem L2 VL
structure Ware where
  nm : Str
  lag : Int
  gives : Int
  floor : Int
  stock : Int
  com : List (Int × Int)
  parts : List (Str × Int)
abbrev Want := Str × Int × Int
structure Shop where
  ws : List Ware
  wants : List Want
def partD (p : Str × Int) : D := .tup [.str p.1, .int p.2]
def wareD (w : Ware) : D := .tup [.str w.nm, .int w.lag, .int w.gives, .int w.floor, .int w.stock, .tup (w.com.map pairD), .tup (w.parts.map partD)]
def wantD (w : Want) : D := .tup [.str w.1, .int w.2.1, .int w.2.2]
def shopD (s : Shop) : D := .tup [.tup (s.ws.map wareD), .tup (s.wants.map wantD)]
def Shop.names (s : Shop) : List Str := s.ws.map fun w => w.nm
/-- what the defs that walk a shop ask of it -/
structure ShopOk (s : Shop) : Prop where
  nd : s.names.Nodup
  sub : ∀ w ∈ s.ws, ∀ p ∈ w.parts, p.1 ∈ s.names
  n : s.ws.length ≤ 100
  p : ∀ w ∈ s.ws, w.parts.length ≤ 100
  c : ∀ w ∈ s.ws, w.com.length ≤ 1000
  m : s.wants.length ≤ 1000
/-! dicts by texts -/
section
variable {α : Type}
def sdD (f : α → D) (t : List (Str × α)) : List (Key × D) := t.map fun p => (.inr p.1, f p.2)
def getS : List (Str × α) → Str → Option α
  | [], _ => none
  | (a, x) :: r, k => if a = k then some x else getS r k
theorem getS_mem {t : List (Str × α)} {k : Str} {x : α} (h : getS t k = some x) : (k, x) ∈ t := by
  induction t with
  | nil => cases h
  | cons p r ih =>
    obtain ⟨a, y⟩ := p
    by_cases e : a = k
    · have h' : (if a = k then some y else getS r k) = some x := h
      rw [if_pos e] at h'
      cases h'
      rw [e]
      exact List.mem_cons_self
    · have h' : (if a = k then some y else getS r k) = some x := h
      rw [if_neg e] at h'
      exact List.mem_cons_of_mem _ (ih h')
theorem getS_of {t : List (Str × α)} {k : Str} {x : α} (nd : (t.map (·.1)).Nodup) (h : (k, x) ∈ t) : getS t k = some x := by
  induction t with
  | nil => cases h
  | cons p r ih =>
    obtain ⟨a, y⟩ := p
    rw [List.map_cons, List.nodup_cons] at nd
    show (if a = k then some y else getS r k) = some x
    rcases List.mem_cons.mp h with e | e
    · cases e
      rw [if_pos rfl]
    · have hk : a ≠ k := fun z => nd.1 (by rw [z]; exact List.mem_map_of_mem (f := (·.1)) e)
      rw [if_neg hk]
      exact ih nd.2 e
theorem getS_none {t : List (Str × α)} {k : Str} : getS t k = none ↔ k ∉ t.map (·.1) := by
  induction t with
  | nil => simp [getS]
  | cons p r ih =>
    obtain ⟨a, y⟩ := p
    show (if a = k then some y else getS r k) = none ↔ _
    rw [List.map_cons, List.mem_cons]
    by_cases e : a = k
    · rw [if_pos e]
      simp [e]
    · rw [if_neg e, ih]
      have : ¬ k = a := fun z => e z.symm
      simp [this]
theorem getS_some {t : List (Str × α)} {k : Str} (h : k ∈ t.map (·.1)) : ∃ x, getS t k = some x := by
  cases e : getS t k with
  | none => exact absurd h (getS_none.mp e)
  | some x => exact ⟨x, rfl⟩
theorem valD_S (f : α → D) : ∀ (t : List (Str × α)) (k : Str), valD (sdD f t) (.inr k) = (getS t k).map f
  | [], k => rfl
  | (a, x) :: r, k => by
    have ih := valD_S f r k
    unfold valD at ih ⊢
    show ((List.find? _ ((Sum.inr a, f x) :: sdD f r)).map _) = ((if a = k then some x else getS r k).map f)
    by_cases e : a = k
    · subst e
      rw [List.find?_cons_of_pos (by simp), if_pos rfl]
      rfl
    · rw [List.find?_cons_of_neg (by
        simp only [decide_eq_true_eq]
        intro z
        exact e (Sum.inr.inj z)), if_neg e]
      exact ih
theorem any_S (f : α → D) {t : List (Str × α)} {k : Str} : ((sdD f t).any fun kv => decide (kv.1 = (.inr k : Key))) = decide (k ∈ t.map (·.1)) := by
  rw [Bool.eq_iff_iff, List.any_eq_true, decide_eq_true_iff]
  constructor
  · rintro ⟨p, hp, e⟩
    obtain ⟨q, hq, rfl⟩ := List.mem_map.mp hp
    have e2 : (Sum.inr q.1 : Key) = .inr k := of_decide_eq_true e
    rw [← Sum.inr.inj e2]
    exact List.mem_map_of_mem (f := (·.1)) hq
  · intro h
    obtain ⟨q, hq, rfl⟩ := List.mem_map.mp h
    exact ⟨_, List.mem_map_of_mem (f := fun p : Str × α => ((.inr p.1 : Key), f p.2)) hq, by simp⟩
theorem putD_newS (f : α → D) {t : List (Str × α)} {k : Str} {x : α} (h : k ∉ t.map (·.1)) : putD (sdD f t) (.inr k) (f x) = sdD f (t ++ [(k, x)]) := by
  unfold putD
  rw [if_neg (by rw [any_S]; simpa using h)]
  unfold sdD
  rw [List.map_append]
  rfl
/-- the value of a key set -/
def setS (t : List (Str × α)) (k : Str) (x : α) : List (Str × α) := t.map fun p => if p.1 = k then (p.1, x) else p
theorem putD_oldS (f : α → D) {t : List (Str × α)} {k : Str} {x : α} (h : k ∈ t.map (·.1)) : putD (sdD f t) (.inr k) (f x) = sdD f (setS t k x) := by
  unfold putD
  rw [if_pos (by rw [any_S]; simpa using h)]
  unfold sdD setS
  rw [List.map_map, List.map_map]
  refine List.map_congr_left fun p hp => ?_
  show (if (Sum.inr p.1 : Key) = .inr k then _ else _) = ((.inr (if p.1 = k then (p.1, x) else p).1 : Key), f (if p.1 = k then (p.1, x) else p).2)
  by_cases e : p.1 = k
  · rw [if_pos (by rw [e]), if_pos e]
  · rw [if_neg (fun z => e (Sum.inr.inj z)), if_neg e]
theorem setS_keys (t : List (Str × α)) (k : Str) (x : α) : (setS t k x).map (·.1) = t.map (·.1) := by
  unfold setS
  rw [List.map_map]
  refine List.map_congr_left fun p _ => ?_
  show (if p.1 = k then (p.1, x) else p).1 = p.1
  split <;> rfl
theorem getS_set {k j : Str} {x : α} : ∀ {t : List (Str × α)}, k ∈ t.map (·.1) → getS (setS t k x) j = if k = j then some x else getS t j
  | [], h => by cases h
  | (a, y) :: r, h => by
    show getS ((if a = k then (a, x) else (a, y)) :: setS r k x) j = _
    by_cases e : a = k
    · subst e
      rw [if_pos rfl]
      show (if a = j then some x else getS (setS r a x) j) = if a = j then some x else (if a = j then some y else getS r j)
      by_cases q : a = j
      · rw [if_pos q, if_pos q]
      · rw [if_neg q, if_neg q, if_neg q]
        by_cases hr : a ∈ r.map (·.1)
        · rw [getS_set hr, if_neg q]
        · have : setS r a x = r := by
            unfold setS
            refine (List.map_congr_left fun p hp => ?_).trans (List.map_id r)
            rw [if_neg fun z => hr (by rw [← z]; exact List.mem_map_of_mem (f := (·.1)) hp)]
            rfl
          rw [this]
    · rw [if_neg e]
      have hr : k ∈ r.map (·.1) := by
        rw [List.map_cons, List.mem_cons] at h
        rcases h with h | h
        · exact absurd h.symm e
        · exact h
      show (if a = j then some y else getS (setS r k x) j) = if k = j then some x else (if a = j then some y else getS r j)
      rw [getS_set hr]
      by_cases q : k = j
      · have : ¬ a = j := fun z => e (z.trans q.symm)
        rw [if_neg this, if_pos q, if_pos q]
      · rw [if_neg q, if_neg q]
end
def strsD (zs : List Str) : D := .lst (zs.map D.str)
def partsOf (s : Shop) : List (Str × List Str) := s.ws.map fun w => (w.nm, w.parts.map (·.1))
theorem partsOf_keys (s : Shop) : (partsOf s).map (·.1) = s.names := by
  unfold partsOf Shop.names
  rw [List.map_map]
  rfl
theorem noD_strs (n : Nat) (zs : List Str) : (zs.map D.str).all (D.noD (n + 1)) = true := noD_map (fun _ => rfl) zs
theorem cmpN_strs {n : Nat} {zs : List Str} (h : ∀ z ∈ zs, PyData.strOk z = true) : D.cmpN (n + 1) (.lst (zs.map D.str)) = true := cmpN_list fun d hd => by
  obtain ⟨z, hz, rfl⟩ := List.mem_map.mp hd
  cases n <;> exact h z hz
/-- a part of the name is among some -/
def hasIn (t : List (Str × List Str)) (left : List Str) (nm : Str) : Bool := ((getS t nm).getD []).any fun p => decide (p ∈ left)
/-- the names of which each has a part among them, and all such -/
structure Core (t : List (Str × List Str)) (L : List Str) : Prop where
  sub : ∀ x ∈ L, x ∈ t.map (·.1)
  nd : L.Nodup
  len : L.length ≤ t.length
  closed : ∀ x ∈ L, hasIn t L x = true
  great : ∀ T : List Str, (∀ x ∈ T, x ∈ t.map (·.1) ∧ hasIn t T x = true) → ∀ x ∈ T, x ∈ L
theorem hasIn_mono {t : List (Str × List Str)} {A B : List Str} {x : Str} (h : ∀ y ∈ A, y ∈ B) (q : hasIn t A x = true) : hasIn t B x = true := by
  unfold hasIn at q ⊢
  rw [List.any_eq_true] at q ⊢
  obtain ⟨p, hp, e⟩ := q
  exact ⟨p, hp, decide_eq_true (h p (of_decide_eq_true e))⟩
/-- the shop has no ring: some rank falls from each ware to its parts -/
def Acyclic (t : List (Str × List Str)) : Prop := ∃ rank : Str → Nat, ∀ x ps, (x, ps) ∈ t → ∀ p ∈ ps, rank p < rank x
theorem core_nil {t : List (Str × List Str)} {L : List Str} (h : Core t L) (ha : Acyclic t) : L = [] := by
  obtain ⟨rank, hr⟩ := ha
  have key : ∀ (n : Nat) (x : Str), x ∈ L → rank x ≤ n → False := fun n => by
    induction n with
    | zero =>
      intro x hx hn
      have hc := h.closed x hx
      unfold hasIn at hc
      rw [List.any_eq_true] at hc
      obtain ⟨p, hp, e⟩ := hc
      obtain ⟨ps, hps⟩ := getS_some (h.sub x hx)
      rw [hps] at hp
      have := hr x ps (getS_mem hps) p hp
      omega
    | succ n ih =>
      intro x hx hn
      have hc := h.closed x hx
      unfold hasIn at hc
      rw [List.any_eq_true] at hc
      obtain ⟨p, hp, e⟩ := hc
      obtain ⟨ps, hps⟩ := getS_some (h.sub x hx)
      rw [hps] at hp
      have := hr x ps (getS_mem hps) p hp
      exact ih p (of_decide_eq_true e) (by omega)
  cases L with
  | nil => rfl
  | cons x r => exact (key (rank x) x List.mem_cons_self (Nat.le_refl _)).elim
theorem ware_uniq {s : Shop} (nd : s.names.Nodup) {v w : Ware} (hv : v ∈ s.ws) (hw : w ∈ s.ws) (e : v.nm = w.nm) : v = w := by
  obtain ⟨i, hi⟩ := List.getElem?_of_mem hv
  obtain ⟨j, hj⟩ := List.getElem?_of_mem hw
  unfold Shop.names at nd
  have h1 : (s.ws.map fun w => w.nm)[i]? = some v.nm := by rw [List.getElem?_map, hi]; rfl
  have h2 : (s.ws.map fun w => w.nm)[j]? = some v.nm := by rw [List.getElem?_map, hj, e]; rfl
  have := (List.getElem?_inj (lt_of_get h1) nd).mp (h1.trans h2.symm)
  subst this
  rw [hi] at hj
  exact Option.some.inj hj
structure ShopA (s : Shop) : Prop where
  ok : ShopOk s
  ac : Acyclic (partsOf s)
end N

--@uses shop
namespace N
open PySem L2 VL
/-- a value for each name -/
def fnS {α : Type} (ns : List Str) (f : Str → α) : List (Str × α) := ns.map fun x => (x, f x)
theorem fnS_keys {α : Type} (ns : List Str) (f : Str → α) : (fnS ns f).map (·.1) = ns := by
  unfold fnS
  rw [List.map_map]
  exact List.map_id ns
theorem getS_fn {α : Type} {f : Str → α} {x : Str} : ∀ {ns : List Str}, x ∈ ns → getS (fnS ns f) x = some (f x)
  | [], h => by cases h
  | a :: r, h => by
    show (if a = x then some (f a) else getS (fnS r f) x) = some (f x)
    by_cases e : a = x
    · rw [if_pos e, e]
    · rw [if_neg e]
      rcases List.mem_cons.mp h with q | q
      · exact absurd q.symm e
      · exact getS_fn q
theorem setS_fn {α : Type} (ns : List Str) (f : Str → α) (k : Str) (v : α) : setS (fnS ns f) k v = fnS ns (fun y => if y = k then v else f y) := by
  unfold setS fnS
  rw [List.map_map]
  refine List.map_congr_left fun x _ => ?_
  show (if x = k then (x, v) else (x, f x)) = (x, if x = k then v else f x)
  split <;> rfl
theorem fnS_congr {α : Type} {ns : List Str} {f g : Str → α} (h : ∀ x ∈ ns, f x = g x) : fnS ns f = fnS ns g := List.map_congr_left fun x hx => by rw [h x hx]
theorem foldl_ge : ∀ (l : List Nat) (b : Nat), b ≤ l.foldl max b ∧ (∀ a ∈ l, a ≤ l.foldl max b) ∧ (l.foldl max b = b ∨ l.foldl max b ∈ l)
  | [], b => ⟨Nat.le_refl _, fun _ h => (by cases h), .inl rfl⟩
  | a :: r, b => by
    obtain ⟨h1, h2, h3⟩ := foldl_ge r (max b a)
    show b ≤ r.foldl max (max b a) ∧ (∀ x ∈ a :: r, x ≤ r.foldl max (max b a)) ∧ (r.foldl max (max b a) = b ∨ r.foldl max (max b a) ∈ a :: r)
    refine ⟨by omega, fun x hx => ?_, ?_⟩
    · rcases List.mem_cons.mp hx with rfl | hx
      · omega
      · exact h2 x hx
    · rcases h3 with h3 | h3
      · rw [h3]
        by_cases q : a ≤ b
        · exact .inl (Nat.max_eq_left q)
        · exact .inr (by rw [Nat.max_eq_right (by omega)]; exact List.mem_cons_self)
      · exact .inr (List.mem_cons_of_mem _ h3)
/-- how deep a name lies, counting k steps at most -/
def lvl (t : List (Str × List Str)) : Nat → Str → Nat
  | 0, _ => 0
  | k + 1, x => (t.map fun p => if x ∈ p.2 then lvl t k p.1 + 1 else 0).foldl max 0
section
variable {t : List (Str × List Str)}
theorem lvl_ge {k : Nat} {x y : Str} {ps : List Str} (h : (y, ps) ∈ t) (hx : x ∈ ps) : lvl t k y + 1 ≤ lvl t (k + 1) x := by
  refine (foldl_ge _ 0).2.1 _ (List.mem_map.mpr ⟨(y, ps), h, ?_⟩)
  show (if x ∈ ps then lvl t k y + 1 else 0) = _
  rw [if_pos hx]
theorem lvl_is {k : Nat} {x : Str} : lvl t (k + 1) x = 0 ∨ ∃ y ps, (y, ps) ∈ t ∧ x ∈ ps ∧ lvl t (k + 1) x = lvl t k y + 1 := by
  rcases (foldl_ge (t.map fun p : Str × List Str => if x ∈ p.2 then lvl t k p.1 + 1 else 0) 0).2.2 with h | h
  · exact .inl h
  · obtain ⟨p, hp, e⟩ := List.mem_map.mp h
    by_cases q : x ∈ p.2
    · rw [if_pos q] at e
      exact .inr ⟨p.1, p.2, hp, q, e.symm⟩
    · rw [if_neg q] at e
      exact .inl e.symm
theorem lvl_mono : ∀ (k : Nat) (x : Str), lvl t k x ≤ lvl t (k + 1) x
  | 0, x => Nat.zero_le _
  | k + 1, x => by
    rcases lvl_is (t := t) (k := k) (x := x) with h | ⟨y, ps, h1, h2, h3⟩
    · rw [h]
      exact Nat.zero_le _
    · rw [h3]
      have := lvl_mono k y
      have := lvl_ge (k := k + 1) h1 h2
      omega
/-- the names of a greater rank -/
def cnt (t : List (Str × List Str)) (rank : Str → Nat) (x : Str) : Nat := (t.filter fun p => decide (rank x < rank p.1)).length
theorem filter_lt {α : Type} {p q : α → Bool} (h : ∀ a, p a = true → q a = true) {b : α} (h1 : p b = false) (h2 : q b = true) : ∀ {l : List α}, b ∈ l → (l.filter p).length < (l.filter q).length
  | [], hb => by cases hb
  | a :: r, hb => by
    have le : ∀ r : List α, (r.filter p).length ≤ (r.filter q).length := fun r => by
      induction r with
      | nil => exact Nat.le_refl _
      | cons c r ih =>
        by_cases e : p c = true
        · rw [List.filter_cons_of_pos e, List.filter_cons_of_pos (h c e)]
          exact Nat.succ_le_succ ih
        · rw [List.filter_cons_of_neg e]
          by_cases e2 : q c = true
          · rw [List.filter_cons_of_pos e2]
            exact Nat.le_succ_of_le ih
          · rw [List.filter_cons_of_neg e2]
            exact ih
    rcases List.mem_cons.mp hb with rfl | hb
    · rw [List.filter_cons_of_neg (by rw [h1]; exact Bool.false_ne_true), List.filter_cons_of_pos h2]
      exact Nat.lt_succ_of_le (le r)
    · have ih := filter_lt h h1 h2 hb
      by_cases e : p a = true
      · rw [List.filter_cons_of_pos e, List.filter_cons_of_pos (h a e)]
        exact Nat.succ_lt_succ ih
      · rw [List.filter_cons_of_neg e]
        by_cases e2 : q a = true
        · rw [List.filter_cons_of_pos e2]
          exact Nat.lt_succ_of_lt ih
        · rw [List.filter_cons_of_neg e2]
          exact ih
theorem lvl_stable {rank : Str → Nat} (hr : ∀ x ps, (x, ps) ∈ t → ∀ p ∈ ps, rank p < rank x) : ∀ (k : Nat) (x : Str), cnt t rank x ≤ k → lvl t (k + 1) x = lvl t k x
  | 0, x, h => by
    rcases lvl_is (t := t) (k := 0) (x := x) with e | ⟨y, ps, h1, h2, h3⟩
    · exact e
    · have hm : (y, ps) ∈ t.filter fun p => decide (rank x < rank p.1) := List.mem_filter.mpr ⟨h1, decide_eq_true (hr y ps h1 x h2)⟩
      have := List.length_pos_of_mem hm
      unfold cnt at h
      omega
  | k + 1, x, h => by
    apply Nat.le_antisymm
    · rcases lvl_is (t := t) (k := k + 1) (x := x) with e | ⟨y, ps, h1, h2, h3⟩
      · rw [e]
        exact Nat.zero_le _
      · have hlt : cnt t rank y < cnt t rank x := filter_lt (p := fun p : Str × List Str => decide (rank y < rank p.1)) (q := fun p : Str × List Str => decide (rank x < rank p.1)) (fun a ha => decide_eq_true (Nat.lt_trans (hr y ps h1 x h2) (of_decide_eq_true ha))) (b := (y, ps)) (decide_eq_false (Nat.lt_irrefl _)) (decide_eq_true (hr y ps h1 x h2)) h1
        have e := lvl_stable hr k y (by omega)
        rw [h3, e]
        exact lvl_ge h1 h2
    · exact lvl_mono (k + 1) x
theorem cnt_le (rank : Str → Nat) (x : Str) : cnt t rank x ≤ t.length := List.length_filter_le _ _
/-- the levels: nought, or one more than the greatest level above -/
structure Levels (t : List (Str × List Str)) (f : Str → Int) : Prop where
  up : ∀ y ps, (y, ps) ∈ t → ∀ x ∈ ps, f y + 1 ≤ f x
  is : ∀ x, f x = 0 ∨ ∃ y ps, (y, ps) ∈ t ∧ x ∈ ps ∧ f x = f y + 1
  nn : ∀ x, 0 ≤ f x ∧ f x ≤ t.length
theorem lvl_le : ∀ (k : Nat) (x : Str), lvl t k x ≤ k
  | 0, _ => Nat.le_refl _
  | k + 1, x => by
    rcases lvl_is (t := t) (k := k) (x := x) with e | ⟨y, ps, _, _, h3⟩
    · rw [e]
      exact Nat.zero_le _
    · rw [h3]
      exact Nat.succ_le_succ (lvl_le k y)
def levF (t : List (Str × List Str)) (x : Str) : Int := (lvl t t.length x : Nat)
theorem levels_ok (ha : Acyclic t) : Levels t (levF t) := by
  obtain ⟨rank, hr⟩ := ha
  have st := fun x => lvl_stable hr t.length x (cnt_le rank x)
  refine ⟨fun y ps h x hx => ?_, fun x => ?_, fun x => ?_⟩
  · have := lvl_ge (k := t.length) h hx
    rw [st x] at this
    unfold levF
    omega
  · rcases lvl_is (t := t) (k := t.length) (x := x) with e | ⟨y, ps, h1, h2, h3⟩
    · rw [st x] at e
      exact .inl (by unfold levF; rw [e]; rfl)
    · rw [st x] at h3
      exact .inr ⟨y, ps, h1, h2, by unfold levF; rw [h3]; rfl⟩
  · have := lvl_le (t := t) t.length x
    unfold levF
    omega
/-- behind k turns the found levels lie between -/
structure Relax (t : List (Str × List Str)) (k : Nat) (f : Str → Int) : Prop where
  lo : ∀ x, ((lvl t k x : Nat) : Int) ≤ f x
  hi : ∀ x, f x ≤ levF t x
end
end N

--@uses levels
/-! ### shops as the laws draw them -/
namespace N
open PySem L2 VL
/-- one to eight small letters -/
structure NameOk (z : Str) : Prop where
  lo : 1 ≤ z.cps.toList.length
  hi : z.cps.toList.length ≤ 8
  ab : ∀ c ∈ z.cps.toList, 97 ≤ c ∧ c ≤ 122
theorem NameOk.str {z : Str} (h : NameOk z) : PyData.strOk z = true := by
  unfold PyData.strOk
  rw [Array.all_eq_true_iff_forall_mem]
  intro c hc
  have := h.ab c (by simpa using hc)
  exact decide_eq_true (by omega)
theorem str_app (a b : Str) : (a ++ b).cps.toList = a.cps.toList ++ b.cps.toList := by
  show (a.cps ++ b.cps).toList = _
  exact Array.toList_append
theorem str_len (a : Str) : a.length = a.cps.toList.length := by
  show a.cps.size = _
  exact Array.length_toList.symm
theorem str_ext {a b : Str} (h : a.cps.toList = b.cps.toList) : a = b := by
  obtain ⟨⟨x⟩⟩ := a
  obtain ⟨⟨y⟩⟩ := b
  have h' : x = y := h
  rw [h']
/-- small numbers that the laws draw -/
abbrev Amt (n : Int) : Prop := 0 ≤ n ∧ n < 10 ^ 42
structure WareG (w : Ware) : Prop where
  nm : NameOk w.nm
  lag : 0 ≤ w.lag ∧ w.lag ≤ 30
  gives : 1 ≤ w.gives ∧ w.gives < 10 ^ 42
  floor : Amt w.floor
  stock : Amt w.stock
  cl : w.com.length ≤ 12
  com : ∀ p ∈ w.com, (0 ≤ p.1 ∧ p.1 ≤ 400) ∧ Amt p.2
  pl : w.parts.length ≤ 6
  pn : (w.parts.map (·.1)).Nodup
  parts : ∀ p ∈ w.parts, 1 ≤ p.2 ∧ p.2 < 10 ^ 42
structure WantsG (names : List Str) (vs : List Want) (n : Nat) (day : Int) : Prop where
  len : vs.length ≤ n
  ok : ∀ v ∈ vs, v.1 ∈ names ∧ (0 ≤ v.2.1 ∧ v.2.1 ≤ day) ∧ Amt v.2.2
structure ShopG (s : Shop) : Prop where
  lo : 1 ≤ s.ws.length
  hi : s.ws.length ≤ 12
  nd : s.names.Nodup
  ws : ∀ w ∈ s.ws, WareG w
  sub : ∀ w ∈ s.ws, ∀ p ∈ w.parts, p.1 ∈ s.names
  wants : WantsG s.names s.wants 20 400
theorem ShopG.ok {s : Shop} (h : ShopG s) : ShopOk s := ⟨h.nd, h.sub, by have := h.hi; omega, fun w hw => by have := (h.ws w hw).pl; omega, fun w hw => by have := (h.ws w hw).cl; omega, by have := h.wants.len; omega⟩
theorem ShopG.a {s : Shop} (h : ShopG s) (ac : Acyclic (partsOf s)) : ShopA s := ⟨h.ok, ac⟩
/-- wares of which each has only wares behind it in a row of names as parts -/
structure Chained (names : List Str) (ws : List Ware) (n : Nat) : Prop where
  nm : ws.map (·.nm) = names.take n
  len : ws.length = n
  ok : ∀ w ∈ ws, WareG w
  sub : ∀ (i : Nat) w, ws[i]? = some w → ∀ p ∈ w.parts, p.1 ∈ names.drop (i + 1)
theorem Chained.nil {names : List Str} : Chained names [] 0 := ⟨by simp, rfl, fun w hw => (by cases hw), fun i w hi => by simp at hi⟩
theorem Chained.snoc {names : List Str} {ws : List Ware} {n : Nat} {w : Ware} {z : Str} (h : Chained names ws n) (hz : names[n]? = some z) (hw : WareG w) (hn : w.nm = z) (hp : ∀ p ∈ w.parts, p.1 ∈ names.drop (n + 1)) : Chained names (ws ++ [w]) (n + 1) where
  nm := by rw [List.map_append, h.nm, take_one hz, ← hn]; rfl
  len := by rw [List.length_append, h.len]; rfl
  ok := fun v hv => by
    rcases List.mem_append.mp hv with hv | hv
    · exact h.ok v hv
    · cases List.mem_singleton.mp hv
      exact hw
  sub := fun i v hi => by
    by_cases hlt : i < ws.length
    · rw [List.getElem?_append_left hlt] at hi
      exact h.sub i v hi
    · have hi2 := (List.getElem?_eq_some_iff.mp hi).1
      rw [List.length_append] at hi2
      have hi3 : i = ws.length := by
        have : [w].length = 1 := rfl
        omega
      rw [hi3, List.getElem?_append_right (Nat.le_refl _), Nat.sub_self] at hi
      cases hi
      rw [hi3, h.len]
      exact hp
theorem idx_nodup {α : Type} [DecidableEq α] : ∀ {l : List α} (_ : l.Nodup) {i : Nat} {x : α}, l[i]? = some x → l.idxOf x = i
  | [], _, _, _, h => by simp at h
  | a :: r, nd, 0, x, h => by
    simp at h
    subst h
    simp
  | a :: r, nd, i + 1, x, h => by
    have h' : r[i]? = some x := by simpa using h
    rw [List.nodup_cons] at nd
    have hne : a ≠ x := fun z => nd.1 (by rw [z]; exact List.mem_of_getElem? h')
    have hb : (a == x) = false := beq_eq_false_iff_ne.mpr hne
    rw [List.idxOf_cons, hb, idx_nodup nd.2 h']
    rfl
theorem mem_drop_ix {α : Type} [DecidableEq α] {l : List α} (nd : l.Nodup) {i : Nat} {x y : α} (hx : l[i]? = some x) (hy : y ∈ l.drop (i + 1)) : l.idxOf x < l.idxOf y := by
  obtain ⟨j, hj, e⟩ := List.mem_iff_getElem.mp hy
  rw [List.getElem_drop] at e
  rw [List.length_drop] at hj
  have hil := (List.getElem?_eq_some_iff.mp hx)
  obtain ⟨hi, ex⟩ := hil
  have hl : i + 1 + j < l.length := by omega
  have h2 : l[i + 1 + j]? = some y := by rw [List.getElem?_eq_getElem hl, e]
  rw [idx_nodup nd hx, idx_nodup nd h2]
  omega
/-- turned about, they are a shop without a ring -/
theorem Chained.shop {names : List Str} {ws ws' : List Ware} {vs : List Want} (h : Chained names ws names.length) (nd : names.Nodup) (p : ws'.Perm ws) (lo : 1 ≤ names.length) (hi : names.length ≤ 12) (hv : WantsG names vs 20 400) : ShopG ⟨ws', vs⟩ ∧ Acyclic (partsOf ⟨ws', vs⟩) := by
  have hnm := h.nm
  rw [List.take_length] at hnm
  have hn : (Shop.mk ws' vs).names.Perm names := by
    unfold Shop.names
    have := p.map (fun w : Ware => w.nm)
    rw [hnm] at this
    exact this
  have hl : ws'.length = names.length := by
    rw [p.length_eq, h.len]
  have mem : ∀ w ∈ ws', w ∈ ws := fun w hw => p.mem_iff.mp hw
  have hsub : ∀ w ∈ ws, ∀ q ∈ w.parts, names.idxOf w.nm < names.idxOf q.1 ∧ q.1 ∈ names := fun w hw q hq => by
    obtain ⟨i, hi⟩ := List.getElem?_of_mem hw
    have h1 := h.sub i w hi q hq
    have h2 : names[i]? = some w.nm := by
      rw [← hnm, List.getElem?_map, hi]
      rfl
    exact ⟨mem_drop_ix nd h2 h1, List.mem_of_mem_drop h1⟩
  refine ⟨⟨by show 1 ≤ ws'.length; omega, by show ws'.length ≤ 12; omega, hn.nodup_iff.mpr nd, fun w hw => h.ok w (mem w hw), fun w hw q hq => hn.mem_iff.mpr (hsub w (mem w hw) q hq).2, ⟨hv.len, fun v hv' => ?_⟩⟩, ?_⟩
  · obtain ⟨h1, h2⟩ := hv.ok v hv'
    exact ⟨hn.mem_iff.mpr h1, h2⟩
  · refine ⟨fun x => names.length - names.idxOf x, fun x ps hx q hq => ?_⟩
    obtain ⟨w, hw, e⟩ := List.mem_map.mp hx
    cases e
    obtain ⟨r, hr, rfl⟩ := List.mem_map.mp hq
    obtain ⟨h1, h2⟩ := hsub w (mem w hw) r hr
    have := List.idxOf_lt_length_of_mem h2
    show names.length - names.idxOf r.1 < names.length - names.idxOf w.nm
    omega
/-- one of two, by a bit -/
theorem pickB {P : Int → Prop} {a b : Int} (c : Bool) (pa : P a) (pb : P b) : ∃ v, atI [D.int a, .int b] (if c then 1 else 0) = some (.int v) ∧ P v := by
  cases c
  · exact ⟨a, atI_nat (j := 0) rfl, pa⟩
  · exact ⟨b, atI_nat (j := 1) rfl, pb⟩
/-- one of some numbers -/
theorem pickL {P : Int → Prop} {l : List Int} {k : Int} (h0 : 0 ≤ k) (h1 : k < l.length) (h : ∀ x ∈ l, P x) : ∃ v, atI (l.map D.int) k = some (.int v) ∧ P v := by
  obtain ⟨k, rfl⟩ := Int.eq_ofNat_of_zero_le h0
  have hk : k < l.length := by omega
  exact ⟨l[k], atI_get D.int (List.getElem?_eq_getElem hk), h _ (List.getElem_mem hk)⟩
theorem atI_lt {α : Type} (f : α → D) {l : List α} {k : Int} (h0 : 0 ≤ k) (h1 : k < l.length) : ∃ (j : Nat) (x : α), k = j ∧ l[j]? = some x ∧ atI (l.map f) k = some (f x) := by
  obtain ⟨k, rfl⟩ := Int.eq_ofNat_of_zero_le h0
  have hk : k < l.length := by omega
  exact ⟨k, l[k], rfl, List.getElem?_eq_getElem hk, atI_get f (List.getElem?_eq_getElem hk)⟩
def abc : Str := "abcdefghijklmnopqrstuvwxyz"
theorem abc_at {k : Int} (h0 : 0 ≤ k) (h1 : k < 26) : atI abc.cps.toList k = some (97 + k.toNat) := by
  obtain ⟨k, rfl⟩ := Int.eq_ofNat_of_zero_le h0
  have hk : k < 26 := by omega
  have key : ∀ j : Fin 26, abc.cps.toList[j.val]? = some (97 + j.val) := by decide +kernel
  have := key ⟨k, hk⟩
  rw [Int.toNat_natCast]
  exact atI_nat this
def abc12 : Str := "abcdefghijkl"
theorem abc12_at {k : Nat} (h1 : k < 12) : atI abc12.cps.toList (k : Int) = some (97 + k) := by
  have key : ∀ j : Fin 12, abc12.cps.toList[j.val]? = some (97 + j.val) := by decide +kernel
  exact atI_nat (key ⟨k, h1⟩)
/-- names whose last letters are a, b, c .. -/
structure Tailed (zs : List Str) : Prop where
  ok : ∀ z ∈ zs, NameOk z
  t : ∀ (i : Nat) z, zs[i]? = some z → z.cps.toList.getLast? = some (97 + i)
theorem Tailed.nodup {zs : List Str} (h : Tailed zs) : zs.Nodup := by
  refine List.pairwise_iff_getElem.mpr fun i j hi hj hij e => ?_
  have h1 := h.t i _ (List.getElem?_eq_getElem hi)
  have h2 := h.t j _ (List.getElem?_eq_getElem hj)
  rw [e, h2] at h1
  have : 97 + j = 97 + i := Option.some.inj h1
  omega
theorem Tailed.snoc {zs : List Str} (h : Tailed zs) {y : Str} (hl : y.cps.toList.length ≤ 7) (hy : ∀ c ∈ y.cps.toList, 97 ≤ c ∧ c ≤ 122) (hz : zs.length < 12) : Tailed (zs ++ [y ++ (⟨#[97 + zs.length]⟩ : Str)]) := by
  have e : (y ++ (⟨#[97 + zs.length]⟩ : Str)).cps.toList = y.cps.toList ++ [97 + zs.length] := str_app _ _
  refine ⟨fun z hz' => ?_, fun i z hi => ?_⟩
  · rcases List.mem_append.mp hz' with hz' | hz'
    · exact h.ok z hz'
    · cases List.mem_singleton.mp hz'
      refine ⟨by rw [e, List.length_append]; exact Nat.le_add_left 1 _, by rw [e, List.length_append]; show _ + 1 ≤ 8; omega, fun c hc => ?_⟩
      rw [e] at hc
      rcases List.mem_append.mp hc with hc | hc
      · exact hy c hc
      · cases List.mem_singleton.mp hc
        omega
  · by_cases hlt : i < zs.length
    · rw [List.getElem?_append_left hlt] at hi
      exact h.t i z hi
    · have hi2 := (List.getElem?_eq_some_iff.mp hi).1
      rw [List.length_append] at hi2
      have hi3 : i = zs.length := by
        have : [y ++ (⟨#[97 + zs.length]⟩ : Str)].length = 1 := rfl
        omega
      subst hi3
      rw [List.getElem?_append_right (Nat.le_refl _), Nat.sub_self] at hi
      cases hi
      rw [e, List.getLast?_append]
      rfl
theorem erase_map {α : Type} (f : α → D) : ∀ (us : List α) (i : Nat), (us.map f).eraseIdx i = (us.eraseIdx i).map f
  | [], _ => rfl
  | _ :: _, 0 => rfl
  | x :: r, i + 1 => congrArg (f x :: ·) (erase_map f r i)
theorem insPop_map {α : Type} (f : α → D) (us : List α) (i z : Nat) (x : α) : ((us.map f).eraseIdx i).take z ++ [f x] ++ ((us.map f).eraseIdx i).drop z = ((us.eraseIdx i).take z ++ [x] ++ (us.eraseIdx i).drop z).map f := by
  rw [erase_map, List.map_append, List.map_append, List.map_take, List.map_drop]
  rfl
theorem cutD_init (l : List D) (x : D) : cutD (l ++ [x]) none (some (-1)) = l := by
  unfold cutD
  have e : HT.sIx (l ++ [x]).length (l ++ [x]).length (some (-1)) = l.length := by
    show (if (-1 : Int) < 0 then (-1 + ((l ++ [x]).length : Int)).toNat else min (-1 : Int).toNat (l ++ [x]).length) = _
    rw [if_pos (by decide), List.length_append]
    have : [x].length = 1 := rfl
    omega
  have e0 : HT.sIx (l ++ [x]).length 0 none = 0 := rfl
  rw [e, e0, List.drop_zero, Nat.sub_zero, List.take_left]
theorem names_eq (s : Shop) : (s.ws.filterMap fun w => some w.nm) = s.names := fm_some (fun w : Ware => w.nm) s.ws
theorem fnS_map (ns : List Str) (f : Str → Int) : sdD D.int (fnS ns f) = (fnS ns f).map fun p => ((.inr p.1 : Key), D.int p.2) := rfl
theorem flat_fn (ns : List Str) (f : Str → Int) : D.flat (.dct (sdD D.int (fnS ns f))) = true := by
  show ((sdD D.int (fnS ns f)).all fun p => D.deepT 9 p.2) = true
  unfold sdD
  rw [List.all_map]
  exact List.all_eq_true.mpr fun _ _ => rfl
theorem flat_strs' (zs : List Str) : D.flat (.lst (zs.map D.str)) = true := by
  show (zs.map D.str).all (D.deepT 9) = true
  rw [List.all_map]
  exact List.all_eq_true.mpr fun _ _ => rfl
theorem keys_fn (ns : List Str) (f : Str → Int) : (sdD D.int (fnS ns f)).map (·.1) = ns.map Sum.inr := by
  unfold sdD fnS
  rw [List.map_map, List.map_map]
  rfl
theorem names_len (s : Shop) : s.names.length = s.ws.length := by unfold Shop.names; rw [List.length_map]
theorem ShopG.strs {s : Shop} (h : ShopG s) : ∀ z ∈ s.names, PyData.strOk z = true := fun z hz => by
  obtain ⟨w, hw, rfl⟩ := List.mem_map.mp hz
  exact (h.ws w hw).nm.str
theorem not_take {α : Type} {l : List α} (nd : l.Nodup) {i : Nat} {x : α} (h : l[i]? = some x) : x ∉ l.take i := fun z => by
  obtain ⟨j, hj⟩ := List.getElem?_of_mem z
  rw [List.getElem?_take] at hj
  split at hj
  · have := (List.getElem?_inj (lt_of_get hj) nd).mp (hj.trans h.symm)
    omega
  · cases hj
theorem fnS_snoc {α : Type} (ns : List Str) (x : Str) (f : Str → α) : fnS (ns ++ [x]) f = fnS ns f ++ [(x, f x)] := by
  unfold fnS
  rw [List.map_append]
  rfl
theorem ware_named {s : Shop} {x : Str} (h : x ∈ s.names) : ∃ w ∈ s.ws, w.nm = x := by
  obtain ⟨w, hw, e⟩ := List.mem_map.mp h
  exact ⟨w, hw, e⟩
/-- the names in the worked order -/
def workedOf (s : Shop) : List Str := s.names.mergeSort fun a b => decide (levF (partsOf s) a ≤ levF (partsOf s) b)
theorem pair_sub {x y : Str} : ∀ {l : List Str}, x ∈ l → y ∈ l → l.idxOf x < l.idxOf y → [x, y].Sublist l
  | [], h, _, _ => by cases h
  | a :: r, hx, hy, hlt => by
    rw [List.idxOf_cons, List.idxOf_cons] at hlt
    by_cases ey : a = y
    · have hb : (a == y) = true := beq_iff_eq.mpr ey
      rw [hb] at hlt
      cases hlt
    · have hb : (a == y) = false := beq_eq_false_iff_ne.mpr ey
      have hyr := (List.mem_cons.mp hy).resolve_left fun q => ey q.symm
      rw [hb] at hlt
      by_cases ex : a = x
      · rw [ex]
        exact .cons_cons x (List.singleton_sublist.mpr hyr)
      · have hbx : (a == x) = false := beq_eq_false_iff_ne.mpr ex
        rw [hbx] at hlt
        have hlt' : r.idxOf x + 1 < r.idxOf y + 1 := hlt
        exact .cons a (pair_sub ((List.mem_cons.mp hx).resolve_left fun q => ex q.symm) hyr (by omega))
theorem sub_pair {x y : Str} : ∀ {l : List Str}, [x, y].Sublist l → l.Nodup → l.idxOf x < l.idxOf y
  | [], h, _ => by cases h
  | a :: r, h, nd => by
    rw [List.nodup_cons] at nd
    rw [List.idxOf_cons, List.idxOf_cons]
    cases h with
    | cons _ h =>
      have hx : x ∈ r := h.subset List.mem_cons_self
      have hy : y ∈ r := h.subset (List.mem_cons_of_mem _ List.mem_cons_self)
      have hbx : (a == x) = false := beq_eq_false_iff_ne.mpr fun z => nd.1 (z ▸ hx)
      have hby : (a == y) = false := beq_eq_false_iff_ne.mpr fun z => nd.1 (z ▸ hy)
      rw [hbx, hby]
      have := sub_pair h nd.2
      show r.idxOf x + 1 < r.idxOf y + 1
      omega
    | cons_cons _ h =>
      have hy : y ∈ r := h.subset List.mem_cons_self
      have hby : (x == y) = false := beq_eq_false_iff_ne.mpr fun z => nd.1 (z ▸ hy)
      rw [hby, beq_self_eq_true]
      exact Nat.succ_pos _
theorem lev_trans {f : Str → Int} (a b c : Str) (h : decide (f a ≤ f b) = true) (q : decide (f b ≤ f c) = true) : decide (f a ≤ f c) = true := decide_eq_true (Int.le_trans (of_decide_eq_true h) (of_decide_eq_true q))
theorem lev_total {f : Str → Int} (a b : Str) : (decide (f a ≤ f b) || decide (f b ≤ f a)) = true := by
  rw [Bool.or_eq_true, decide_eq_true_iff, decide_eq_true_iff]
  omega
theorem workedOf_perm (s : Shop) : (workedOf s).Perm s.names := List.mergeSort_perm _ _
theorem workedOf_mem {s : Shop} {x : Str} : x ∈ workedOf s ↔ x ∈ s.names := (workedOf_perm s).mem_iff
theorem workedOf_nodup {s : Shop} (h : s.names.Nodup) : (workedOf s).Nodup := (workedOf_perm s).nodup_iff.mpr h
/-- by levels, those of one level as they stand -/
theorem workedOf_lt {s : Shop} (nd : s.names.Nodup) {i j : Nat} {a b : Str} (hij : i < j) (ha : (workedOf s)[i]? = some a) (hb : (workedOf s)[j]? = some b) : levF (partsOf s) a < levF (partsOf s) b ∨ (levF (partsOf s) a = levF (partsOf s) b ∧ s.names.idxOf a < s.names.idxOf b) := by
  have pw : (workedOf s).Pairwise fun a b => decide (levF (partsOf s) a ≤ levF (partsOf s) b) = true := List.pairwise_mergeSort (le := fun a b => decide (levF (partsOf s) a ≤ levF (partsOf s) b)) lev_trans lev_total s.names
  obtain ⟨hi, ea⟩ := List.getElem?_eq_some_iff.mp ha
  obtain ⟨hj, eb⟩ := List.getElem?_eq_some_iff.mp hb
  have hle : levF (partsOf s) a ≤ levF (partsOf s) b := by
    have := List.pairwise_iff_getElem.mp pw i j hi hj hij
    rw [ea, eb] at this
    exact of_decide_eq_true this
  have wn := workedOf_nodup nd
  by_cases hlt : levF (partsOf s) a < levF (partsOf s) b
  · exact .inl hlt
  · refine .inr ⟨by omega, ?_⟩
    have ma : a ∈ s.names := workedOf_mem.mp (List.mem_of_getElem? ha)
    have mb : b ∈ s.names := workedOf_mem.mp (List.mem_of_getElem? hb)
    have hia := idx_nodup wn ha
    have hjb := idx_nodup wn hb
    have hne : a ≠ b := fun z => by
      rw [z, hjb] at hia
      omega
    rcases Nat.lt_trichotomy (s.names.idxOf a) (s.names.idxOf b) with q | q | q
    · exact q
    · refine absurd ?_ hne
      have h1 := (idx_get ma).1
      have h2 := (idx_get mb).1
      rw [q, h2] at h1
      exact (Option.some.inj h1).symm
    · have hs := List.pair_sublist_mergeSort (le := fun a b => decide (levF (partsOf s) a ≤ levF (partsOf s) b)) lev_trans lev_total (a := b) (b := a) (decide_eq_true (by omega)) (pair_sub mb ma q)
      have hsp : [b, a].Sublist (workedOf s) := hs
      have := sub_pair hsp wn
      rw [hia, hjb] at this
      omega
/-- the greatest, nought of none -/
def IsMax0 (l : List Int) (m : Int) : Prop := (l = [] ∧ m = 0) ∨ (m ∈ l ∧ ∀ y ∈ l, y ≤ m)
theorem IsMax0.uniq {l : List Int} {m n : Int} (h : IsMax0 l m) (q : IsMax0 l n) : m = n := by
  rcases h with ⟨h1, h2⟩ | ⟨h1, h2⟩ <;> rcases q with ⟨q1, q2⟩ | ⟨q1, q2⟩
  · omega
  · rw [h1] at q1
    cases q1
  · rw [q1] at h1
    cases h1
  · have := h2 n q1
    have := q2 m h1
    omega
/-- the days that wares take with all that they are made of, those of the names l -/
def TimesTo (s : Shop) (l : List Str) (f : Str → Int) : Prop := ∀ w ∈ s.ws, w.nm ∈ l → ∃ m, IsMax0 (w.parts.map fun p => f p.1) m ∧ f w.nm = w.lag + m
theorem times_uniq {s : Shop} (hA : ShopA s) {f g : Str → Int} (hf : TimesTo s s.names f) (hg : TimesTo s s.names g) : ∀ x ∈ s.names, f x = g x := by
  obtain ⟨rank, hr⟩ := hA.ac
  have key : ∀ (n : Nat) (x : Str), x ∈ s.names → rank x ≤ n → f x = g x := fun n => by
    induction n with
    | zero =>
      intro x hx hn
      obtain ⟨w, hw, rfl⟩ := ware_named hx
      obtain ⟨m, h1, h2⟩ := hf w hw hx
      obtain ⟨m', g1, g2⟩ := hg w hw hx
      have hp : w.parts = [] := by
        cases e : w.parts with
        | nil => rfl
        | cons p r =>
          have := hr w.nm (w.parts.map (·.1)) (List.mem_map.mpr ⟨w, hw, rfl⟩) p.1 (by rw [e]; exact List.mem_cons_self)
          omega
      rw [hp] at h1 g1
      have := h1.uniq g1
      omega
    | succ n ih =>
      intro x hx hn
      obtain ⟨w, hw, rfl⟩ := ware_named hx
      obtain ⟨m, h1, h2⟩ := hf w hw hx
      obtain ⟨m', g1, g2⟩ := hg w hw hx
      have he : (w.parts.map fun p => f p.1) = w.parts.map fun p => g p.1 := List.map_congr_left fun p hp => by
        have := hr w.nm (w.parts.map (·.1)) (List.mem_map.mpr ⟨w, hw, rfl⟩) p.1 (List.mem_map_of_mem (f := (·.1)) hp)
        exact ih p.1 (hA.ok.sub w hw p hp) (by omega)
      rw [he] at h1
      have := h1.uniq g1
      omega
  exact fun x hx => key (rank x) x hx (Nat.le_refl _)
theorem worked_len (s : Shop) : (workedOf s).length = s.ws.length := by
  rw [(workedOf_perm s).length_eq]
  exact names_len s
/-- behind in the worked order stand the parts -/
theorem parts_behind {s : Shop} (hA : ShopA s) {i : Nat} {w : Ware} (hw : w ∈ s.ws) (hi : (workedOf s)[i]? = some w.nm) {p : Str × Int} (hp : p ∈ w.parts) : ∃ j, i < j ∧ (workedOf s)[j]? = some p.1 := by
  have hl := (levels_ok hA.ac).up w.nm (w.parts.map (·.1)) (List.mem_map.mpr ⟨w, hw, rfl⟩) p.1 (List.mem_map_of_mem (f := (·.1)) hp)
  obtain ⟨j, hj⟩ := List.getElem?_of_mem (workedOf_mem.mpr (hA.ok.sub w hw p hp))
  refine ⟨j, ?_, hj⟩
  rcases Nat.lt_trichotomy i j with q | q | q
  · exact q
  · subst q
    rw [hi] at hj
    have e := Option.some.inj hj
    rw [e] at hl
    omega
  · rcases workedOf_lt hA.ok.nd q hj hi with h | ⟨h, _⟩ <;> omega
theorem parts_ahead {s : Shop} (hA : ShopA s) {i : Nat} {w : Ware} (hw : w ∈ s.ws) (hi : (workedOf s).reverse[i]? = some w.nm) {p : Str × Int} (hp : p ∈ w.parts) : p.1 ∈ (workedOf s).reverse.take i := by
  have hlt := lt_of_get hi
  rw [List.length_reverse] at hlt
  rw [List.getElem?_reverse hlt] at hi
  obtain ⟨j, hj, hj2⟩ := parts_behind hA hw hi hp
  have hjl := lt_of_get hj2
  have h3 : (workedOf s).reverse[(workedOf s).length - 1 - j]? = some p.1 := by
    rw [List.getElem?_reverse (by omega)]
    have : (workedOf s).length - 1 - ((workedOf s).length - 1 - j) = j := by omega
    rw [this]
    exact hj2
  refine List.mem_of_getElem? (i := (workedOf s).length - 1 - j) ?_
  rw [List.getElem?_take, if_pos (by omega)]
  exact h3
theorem TimesTo.snoc {s : Shop} (hA : ShopA s) {i : Nat} {w : Ware} {f : Str → Int} {m : Int} (h : TimesTo s ((workedOf s).reverse.take i) f) (hw : w ∈ s.ws) (hi : (workedOf s).reverse[i]? = some w.nm) (hm : IsMax0 (w.parts.map fun p => f p.1) m) :
    TimesTo s ((workedOf s).reverse.take (i + 1)) (fun y => if y = w.nm then w.lag + m else f y) := by
  have nd : (workedOf s).reverse.Nodup := (List.reverse_perm _).nodup_iff.mpr (workedOf_nodup hA.ok.nd)
  have hnew := not_take nd hi
  have same : ∀ v ∈ s.ws, ∀ j, j ≤ i → (workedOf s).reverse[j]? = some v.nm → (v.parts.map fun p => if p.1 = w.nm then w.lag + m else f p.1) = v.parts.map fun p => f p.1 := fun v hv j hj hjv => List.map_congr_left fun p hp => by
    have h1 := parts_ahead hA hv hjv hp
    have h2 : p.1 ∈ (workedOf s).reverse.take i := (List.take_subset_take_left _ hj) h1
    rw [if_neg fun z => hnew (by rw [← z]; exact h2)]
  intro v hv hvl
  by_cases e : v.nm = w.nm
  · have := ware_uniq hA.ok.nd hv hw e
    subst this
    dsimp only
    rw [if_pos rfl, same v hv i (Nat.le_refl _) hi]
    exact ⟨m, hm, rfl⟩
  · dsimp only
    rw [if_neg e]
    rw [take_one hi] at hvl
    have hvl2 : v.nm ∈ (workedOf s).reverse.take i := by
      rcases List.mem_append.mp hvl with q | q
      · exact q
      · exact absurd (List.mem_singleton.mp q) e
    obtain ⟨j, hj⟩ := List.getElem?_of_mem hvl2
    rw [List.getElem?_take] at hj
    split at hj
    · rw [same v hv j (by omega) hj]
      exact h v hv hvl2
    · cases hj
def lagsOf (ws : List Ware) : List (Str × Int) := ws.map fun w => (w.nm, w.lag)
theorem lags_get {s : Shop} (nd : s.names.Nodup) {w : Ware} (hw : w ∈ s.ws) : getS (lagsOf s.ws) w.nm = some w.lag := getS_of (by
  unfold lagsOf
  rw [List.map_map]
  exact nd) (List.mem_map.mpr ⟨w, hw, rfl⟩)
end N

--@uses gen
/-! ### the draws of two numbers -/
namespace N
open PySem L2 VL
def GoodSt2 (ns : List Int) : Prop := ∃ a b : Int, ns = [a, b]
end N

--@uses draw2
namespace N
open PySem L2 VL
/-! ### wares as rows that are filled later -/
def rawD (w : Ware) : D := .lst [.str w.nm, .int w.lag, .int w.gives, .int w.floor, .int w.stock, .cm, .lst (w.parts.map partD)]
def bareC (w : Ware) : Ware := ⟨w.nm, w.lag, w.gives, w.floor, w.stock, [], w.parts⟩
theorem cutD_takeI {α : Type} (f : α → D) (l : List α) {k : Int} (h0 : 0 ≤ k) (h1 : k ≤ l.length) : cutD (l.map f) none (some k) = (l.take k.toNat).map f := by
  unfold cutD
  have e : HT.sIx (l.map f).length (l.map f).length (some k) = k.toNat := by
    show (if k < 0 then (k + ((l.map f).length : Int)).toNat else min k.toNat (l.map f).length) = _
    rw [if_neg (by omega), List.length_map]
    omega
  have e0 : HT.sIx (l.map f).length 0 none = 0 := rfl
  rw [e, e0, List.drop_zero, Nat.sub_zero, List.map_take]
/-- what was drawn, filled with what is on the way -/
structure Filled (us ws : List Ware) : Prop where
  eq : us.map bareC = ws.map bareC
  com : ∀ w ∈ us, GoodP w.com
theorem Filled.len {us ws : List Ware} (h : Filled us ws) : us.length = ws.length := by
  have := congrArg List.length h.eq
  rwa [List.length_map, List.length_map] at this
theorem Filled.get {us ws : List Ware} (h : Filled us ws) {w : Ware} (hw : w ∈ us) : ∃ v ∈ ws, bareC w = bareC v := by
  have : bareC w ∈ ws.map bareC := h.eq ▸ List.mem_map_of_mem hw
  obtain ⟨v, hv, e⟩ := List.mem_map.mp this
  exact ⟨v, hv, e.symm⟩
theorem Filled.names {us ws : List Ware} (h : Filled us ws) : us.map (·.nm) = ws.map (·.nm) := by
  have := congrArg (List.map fun w : Ware => w.nm) h.eq
  rw [List.map_map, List.map_map] at this
  exact this
theorem Filled.parts {us ws : List Ware} (h : Filled us ws) (vs vs' : List Want) : partsOf ⟨us, vs⟩ = partsOf ⟨ws, vs'⟩ := by
  have := congrArg (List.map fun w : Ware => (w.nm, w.parts.map fun p : Str × Int => p.1)) h.eq
  rw [List.map_map, List.map_map] at this
  exact this
theorem Filled.shop {us ws : List Ware} {vs : List Want} (h : Filled us ws) (g : ShopG ⟨ws, []⟩) (ac : Acyclic (partsOf ⟨ws, []⟩)) (hv : WantsG (Shop.mk ws []).names vs 20 400) : ShopG ⟨us, vs⟩ ∧ Acyclic (partsOf ⟨us, vs⟩) := by
  have hn : (Shop.mk us vs).names = (Shop.mk ws []).names := h.names
  have hl := h.len
  refine ⟨⟨?_, ?_, ?_, fun w hw => ?_, fun w hw p hp => ?_, ⟨hv.len, fun v q => ?_⟩⟩, ?_⟩
  · show 1 ≤ us.length
    rw [hl]
    exact g.lo
  · show us.length ≤ 12
    rw [hl]
    exact g.hi
  · rw [hn]
    exact g.nd
  · obtain ⟨v, hvm, e⟩ := h.get hw
    have gv := g.ws v hvm
    have hc := h.com w hw
    cases w with
    | mk nm lag gives floor stock com parts =>
    cases v with
    | mk nm' lag' gives' floor' stock' com' parts' =>
    unfold bareC at e
    cases e
    exact ⟨gv.nm, gv.lag, gv.gives, gv.floor, gv.stock, hc.1, hc.2, gv.pl, gv.pn, gv.parts⟩
  · obtain ⟨v, hvm, e⟩ := h.get hw
    rw [hn]
    refine g.sub v hvm p ?_
    have : (bareC w).parts = (bareC v).parts := congrArg Ware.parts e
    have e2 : w.parts = v.parts := this
    rw [← e2]
    exact hp
  · rw [hn]
    exact hv.ok v q
  · rw [h.parts vs []]
    exact ac
def pool8 : List Str := ["a", "ab", "b", "ba", "c", "frame", "nut", "wheel"]
def nameOkB (z : Str) : Bool := decide (1 ≤ z.cps.toList.length) && decide (z.cps.toList.length ≤ 8) && z.cps.toList.all fun c => decide (97 ≤ c) && decide (c ≤ 122)
theorem nameOk_of {z : Str} (h : nameOkB z = true) : NameOk z := by
  unfold nameOkB at h
  rw [Bool.and_eq_true, Bool.and_eq_true] at h
  refine ⟨of_decide_eq_true h.1.1, of_decide_eq_true h.1.2, fun c hc => ?_⟩
  have := List.all_eq_true.mp h.2 c hc
  rw [Bool.and_eq_true] at this
  exact ⟨of_decide_eq_true this.1, of_decide_eq_true this.2⟩
theorem pool8_ok : ∀ z ∈ pool8, NameOk z := fun z hz => by
  have : pool8.all nameOkB = true := by decide +kernel
  exact nameOk_of (List.all_eq_true.mp this z hz)
theorem pool8_nd : pool8.Nodup := by decide +kernel
def turnAt {α : Type} (k : Nat) (l : List α) : List α := l.drop k ++ l.take k
theorem turnAt_perm {α : Type} (k : Nat) (l : List α) : (turnAt k l).Perm l := by
  unfold turnAt
  exact List.perm_append_comm.trans (by rw [List.take_append_drop])
/-- rows turned at a spot, the last ones about -/
theorem spot_perm {α : Type} (k : Nat) (l : List α) : (l.drop k ++ (l.take k).reverse).Perm l := (List.Perm.append_left _ (List.reverse_perm _)).trans (turnAt_perm k l)
def pool12 : List Str := ["a", "ab", "b", "ba", "c", "frame", "nut", "wheel", "aab", "rimaxles", "tt", "bolt"]
theorem pool12_ok : ∀ z ∈ pool12, NameOk z := fun z hz => by
  have : pool12.all nameOkB = true := by decide +kernel
  exact nameOk_of (List.all_eq_true.mp this z hz)
theorem pool12_nd : pool12.Nodup := by decide +kernel
end N
namespace N
open PySem L2 VL
theorem Filled.lag {us ws : List Ware} (h : Filled us ws) {k : Int} (hk : ∀ w ∈ ws, w.lag ≤ k) : ∀ w ∈ us, w.lag ≤ k := fun w hw => by
  obtain ⟨v, hv, e⟩ := h.get hw
  have e2 : (bareC w).lag = (bareC v).lag := congrArg Ware.lag e
  have e2 : w.lag = v.lag := e2
  rw [e2]
  exact hk v hv
end N

--@uses gen
namespace N
open PySem L2 VL
/-- how many of a name are wanted, all days together -/
def wantAll (ws : List Want) (nm : Str) : Int := ((ws.filter fun w => decide (w.1 = nm)).map fun w => w.2.2).sum
/-- what a lot takes of a name -/
def partSum (ps : List (Str × Int)) (nm : Str) : Int := ((ps.filter fun p => decide (p.1 = nm)).map (·.2)).sum
theorem partSum_snoc (ps : List (Str × Int)) (p : Str × Int) (nm : Str) : partSum (ps ++ [p]) nm = partSum ps nm + if p.1 = nm then p.2 else 0 := by
  unfold partSum
  rw [List.filter_append, List.map_append, List.sum_append]
  congr 1
  by_cases h : p.1 = nm
  · rw [if_pos h]
    simp [h]
  · rw [if_neg h]
    simp [h]
theorem partSum_none {ps : List (Str × Int)} {nm : Str} (h : ∀ p ∈ ps, p.1 ≠ nm) : partSum ps nm = 0 := by
  unfold partSum
  rw [List.filter_eq_nil_iff.mpr fun p hp => by simpa using h p hp]
  rfl
theorem sum_le_len {c : Int} : ∀ {l : List Int}, (∀ x ∈ l, 0 ≤ x ∧ x ≤ c) → 0 ≤ l.sum ∧ l.sum ≤ l.length * c
  | [], _ => by simp
  | x :: r, h => by
    have hx := h x List.mem_cons_self
    have ih := sum_le_len fun y hy => h y (List.mem_cons_of_mem _ hy)
    rw [List.sum_cons, List.length_cons]
    have e : ((r.length + 1 : Nat) : Int) * c = r.length * c + c := by
      rw [Int.natCast_add, Int.add_mul]
      simp
    rw [e]
    omega
theorem partSum_le {w : Ware} (h : WareG w) (nm : Str) : 0 ≤ partSum w.parts nm ∧ partSum w.parts nm ≤ 10 ^ 43 := by
  unfold partSum
  have h1 := sum_le_len (c := 10 ^ 42) (l := (w.parts.filter fun p => decide (p.1 = nm)).map (·.2)) fun x hx => by
    obtain ⟨p, hp, rfl⟩ := List.mem_map.mp hx
    have := h.parts p (List.mem_filter.mp hp).1
    omega
  have h2 : ((w.parts.filter fun p => decide (p.1 = nm)).map (·.2)).length ≤ 6 := by
    rw [List.length_map]
    exact Nat.le_trans (List.length_filter_le _ _) h.pl
  have h3 : (((w.parts.filter fun p => decide (p.1 = nm)).map (·.2)).length : Int) * 10 ^ 42 ≤ 6 * 10 ^ 42 := Int.mul_le_mul_of_nonneg_right (by omega) (by decide)
  omega
theorem wantAll_le {names : List Str} {vs : List Want} {n : Nat} {day : Int} (h : WantsG names vs n day) (hn : n ≤ 50) (nm : Str) : 0 ≤ wantAll vs nm ∧ wantAll vs nm ≤ 10 ^ 44 := by
  unfold wantAll
  have h1 := sum_le_len (c := 10 ^ 42) (l := (vs.filter fun w => decide (w.1 = nm)).map fun w => w.2.2) fun x hx => by
    obtain ⟨p, hp, rfl⟩ := List.mem_map.mp hx
    have := (h.ok p (List.mem_filter.mp hp).1).2.2
    omega
  have h2 : ((vs.filter fun w => decide (w.1 = nm)).map fun w => w.2.2).length ≤ 50 := by
    rw [List.length_map]
    exact Nat.le_trans (List.length_filter_le _ _) (Nat.le_trans h.len hn)
  have h3 : (((vs.filter fun w => decide (w.1 = nm)).map fun w => w.2.2).length : Int) * 10 ^ 42 ≤ 50 * 10 ^ 42 := Int.mul_le_mul_of_nonneg_right (by omega) (by decide)
  omega
/-- what a lot of the ware of a name takes of another -/
def partOf (s : Shop) (y nm : Str) : Int := match s.ws.find? fun v => decide (v.nm = y) with
  | some w => partSum w.parts nm
  | none => 0
theorem find_ware {s : Shop} (nd : s.names.Nodup) {w : Ware} (hw : w ∈ s.ws) : s.ws.find? (fun v => decide (v.nm = w.nm)) = some w := by
  cases e : s.ws.find? fun v => decide (v.nm = w.nm) with
  | none =>
    have := List.find?_eq_none.mp e w hw
    simp at this
  | some v =>
    have h1 := List.find?_some e
    have h2 := List.mem_of_find?_eq_some e
    rw [ware_uniq nd h2 hw (of_decide_eq_true h1)]
theorem partOf_eq {s : Shop} (nd : s.names.Nodup) {w : Ware} (hw : w ∈ s.ws) (nm : Str) : partOf s w.nm nm = partSum w.parts nm := by
  unfold partOf
  rw [find_ware nd hw]
/-- what the lots f of some wares take of a name -/
def takesBy (s : Shop) (f : Str → Int) (l : List Str) (nm : Str) : Int := (l.map fun y => f y * partOf s y nm).sum
theorem takesBy_snoc (s : Shop) (f : Str → Int) (l : List Str) (y nm : Str) : takesBy s f (l ++ [y]) nm = takesBy s f l nm + f y * partOf s y nm := by
  unfold takesBy
  rw [List.map_append, List.sum_append]
  simp
theorem sum_perm {l m : List Int} (h : l.Perm m) : l.sum = m.sum := by
  induction h with
  | nil => rfl
  | cons x _ ih => rw [List.sum_cons, List.sum_cons, ih]
  | swap x y l => rw [List.sum_cons, List.sum_cons, List.sum_cons, List.sum_cons]; omega
  | trans _ _ h1 h2 => rw [h1, h2]
theorem takesBy_perm {s : Shop} {f : Str → Int} {l m : List Str} (h : l.Perm m) (nm : Str) : takesBy s f l nm = takesBy s f m nm := sum_perm (h.map _)
theorem takesBy_congr {s : Shop} {f g : Str → Int} {l : List Str} (h : ∀ x ∈ l, f x = g x) (nm : Str) : takesBy s f l nm = takesBy s g l nm := by
  unfold takesBy
  rw [List.map_congr_left fun x hx => by rw [h x hx]]
theorem takesBy_zero {s : Shop} {f : Str → Int} {l : List Str} {nm : Str} (h : ∀ x ∈ l, partOf s x nm = 0) : takesBy s f l nm = 0 := by
  unfold takesBy
  induction l with
  | nil => rfl
  | cons x r ih =>
    rw [List.map_cons, List.sum_cons, h x List.mem_cons_self, ih fun y hy => h y (List.mem_cons_of_mem _ hy)]
    simp
theorem takesBy_app (s : Shop) (f : Str → Int) (l m : List Str) (nm : Str) : takesBy s f (l ++ m) nm = takesBy s f l nm + takesBy s f m nm := by
  unfold takesBy
  rw [List.map_append, List.sum_append]
/-- what is needed of a name from nothing -/
def fromNo (s : Shop) (f : Str → Int) (nm : Str) : Int := wantAll s.wants nm + takesBy s f s.names nm
def ceilD (n g : Int) : Int := -(-n / g)
/-- the lots made from nothing, of the names l -/
def ExplTo (s : Shop) (l : List Str) (f : Str → Int) : Prop := ∀ w ∈ s.ws, w.nm ∈ l → f w.nm = ceilD (fromNo s f w.nm) w.gives
theorem ceilD_le {n g : Int} (hn : 0 ≤ n) (hg : 1 ≤ g) : 0 ≤ ceilD n g ∧ ceilD n g ≤ n := by
  unfold ceilD
  have h1 : -n / g ≤ 0 := by
    have := Int.ediv_le_ediv (show 0 < g by omega) (show -n ≤ 0 by omega)
    rw [Int.zero_ediv] at this
    exact this
  have h2 : -n ≤ -n / g := by
    rw [Int.le_ediv_iff_mul_le (by omega)]
    have := Int.mul_le_mul_of_nonneg_left hg hn
    rw [Int.mul_one] at this
    have e : -n * g = -(n * g) := Int.neg_mul n g
    rw [e]
    omega
  omega
/-- the users of a name stand ahead of it -/
theorem users_ahead {s : Shop} (hA : ShopA s) {i j : Nat} {x y : Str} (hx : (workedOf s)[i]? = some x) (hy : (workedOf s)[j]? = some y) (hij : i ≤ j) : partOf s y x = 0 := by
  obtain ⟨w, hw, rfl⟩ := ware_named (workedOf_mem.mp (List.mem_of_getElem? hy))
  rw [partOf_eq hA.ok.nd hw]
  refine partSum_none fun p hp e => ?_
  obtain ⟨k, hk, hk2⟩ := parts_behind hA hw hy hp
  rw [e] at hk2
  have := (List.getElem?_inj (lt_of_get hk2) (workedOf_nodup hA.ok.nd)).mp (hk2.trans hx.symm)
  omega
theorem takes_ahead {s : Shop} (hA : ShopA s) {f : Str → Int} {i : Nat} {x : Str} (hx : (workedOf s)[i]? = some x) : takesBy s f ((workedOf s).take i) x = takesBy s f s.names x := by
  rw [← takesBy_perm (workedOf_perm s)]
  have e := List.take_append_drop i (workedOf s)
  have h2 : takesBy s f ((workedOf s).drop i) x = 0 := takesBy_zero fun y hy => by
    obtain ⟨k, hk⟩ := List.getElem?_of_mem hy
    rw [List.getElem?_drop] at hk
    exact users_ahead hA hx hk (by omega)
  have h3 := takesBy_app s f ((workedOf s).take i) ((workedOf s).drop i) x
  rw [e, h2] at h3
  omega
/-- the lots are but ones -/
theorem expl_uniq {s : Shop} (hA : ShopA s) {f g : Str → Int} (hf : ExplTo s s.names f) (hg : ExplTo s s.names g) : ∀ x ∈ s.names, f x = g x := by
  have key : ∀ i, ∀ x ∈ (workedOf s).take i, f x = g x := fun i => by
    induction i with
    | zero => intro x hx; rw [List.take_zero] at hx; cases hx
    | succ i ih =>
      intro x hx
      by_cases hi : i < (workedOf s).length
      · have hget : (workedOf s)[i]? = some (workedOf s)[i] := List.getElem?_eq_getElem hi
        rw [take_one hget] at hx
        rcases List.mem_append.mp hx with hx | hx
        · exact ih x hx
        · cases List.mem_singleton.mp hx
          have hm := workedOf_mem.mp (List.mem_of_getElem? hget)
          obtain ⟨w, hw, e⟩ := ware_named hm
          have h1 := hf w hw (by rw [e]; exact hm)
          have h2 := hg w hw (by rw [e]; exact hm)
          rw [e] at h1 h2
          rw [h1, h2]
          unfold fromNo
          rw [← takes_ahead hA hget, ← takes_ahead hA hget, takesBy_congr ih]
      · rw [List.take_of_length_le (by omega)] at hx
        exact ih x (by rw [List.take_of_length_le (by omega)]; exact hx)
  intro x hx
  have h1 := key (workedOf s).length x
  rw [List.take_length] at h1
  exact h1 (workedOf_mem.mpr hx)
abbrev bigM (i : Nat) : Int := (10 ^ 44) ^ i
theorem bigM_pos (i : Nat) : 1 ≤ bigM i := by
  induction i with
  | zero => decide
  | succ i ih =>
    have e : bigM (i + 1) = bigM i * 10 ^ 44 := Int.pow_succ _ _
    rw [e]
    omega
theorem bigM_step {i : Nat} {n k p : Int} (h1 : n ≤ bigM i) (k0 : 0 ≤ k) (hk : k ≤ bigM i) (p0 : 0 ≤ p) (hp : p ≤ 10 ^ 43) : n + k * p ≤ bigM (i + 1) := by
  have e : bigM (i + 1) = bigM i * 10 ^ 44 := Int.pow_succ _ _
  have := bigM_pos i
  have h2 : k * p ≤ bigM i * 10 ^ 43 := by
    have a := Int.mul_le_mul_of_nonneg_left hp k0
    have b := Int.mul_le_mul_of_nonneg_right hk (show (0 : Int) ≤ 10 ^ 43 by decide)
    omega
  rw [e]
  omega
theorem bigM_mono {i j : Nat} (h : i ≤ j) : bigM i ≤ bigM j := by
  induction h with
  | refl => exact Int.le_refl _
  | step _ ih =>
    rename_i m _
    have e : bigM (m + 1) = bigM m * 10 ^ 44 := Int.pow_succ _ _
    have := bigM_pos m
    rw [e]
    omega
theorem bigM_log {x : Int} (h0 : 0 ≤ x) (h : x ≤ bigM 13) : x.natAbs.log2 < 2000 := by
  by_cases hx : x = 0
  · subst hx
    decide
  · rw [Nat.log2_lt (by omega)]
    have h2 : bigM 13 < 2 ^ 2000 := by decide
    have h3 : (x.natAbs : Int) < 2 ^ 2000 := by omega
    have h4 : ((2 ^ 2000 : Nat) : Int) = (2 : Int) ^ 2000 := by rw [Int.natCast_pow]; rfl
    omega
theorem takes_ws {s : Shop} (nd : s.names.Nodup) (f : Str → Int) (nm : Str) : takesBy s f s.names nm = (s.ws.map fun v => f v.nm * partSum v.parts nm).sum := by
  unfold takesBy
  have e : s.names = s.ws.map fun w => w.nm := rfl
  rw [e, List.map_map]
  rw [List.map_congr_left (g := fun v : Ware => f v.nm * partSum v.parts nm) fun v hv => by
    show f v.nm * partOf s v.nm nm = _
    rw [partOf_eq nd hv]]
theorem ceilD_ok {n g : Int} (hg : 1 ≤ g) : n ≤ ceilD n g * g ∧ (ceilD n g - 1) * g < n := by
  unfold ceilD
  have h1 := Int.ediv_mul_le (-n) (show g ≠ 0 by omega)
  have h2 := Int.lt_ediv_add_one_mul_self (-n) (show 0 < g by omega)
  have e1 : -(-n / g) * g = -((-n / g) * g) := Int.neg_mul _ _
  have e2 : (-(-n / g) - 1) * g = -((-n / g + 1) * g) := by
    rw [← Int.neg_mul]
    congr 1
    omega
  rw [e1, e2]
  omega
/-- the shop without stock, floors, days and what is on the way -/
def bareW (w : Ware) : Ware := ⟨w.nm, 0, w.gives, 0, 0, [], w.parts⟩
def bareS (s : Shop) : Shop := ⟨s.ws.map bareW, s.wants.map fun v => (v.1, 0, v.2.2)⟩
theorem bare_names (s : Shop) : (bareS s).names = s.names := by
  unfold Shop.names bareS
  rw [List.map_map]
  rfl
theorem bare_parts (s : Shop) : partsOf (bareS s) = partsOf s := by
  unfold partsOf bareS
  rw [List.map_map]
  rfl
theorem bare_worked (s : Shop) : workedOf (bareS s) = workedOf s := by
  unfold workedOf
  rw [bare_names, bare_parts]
theorem ShopG.bare {s : Shop} (h : ShopG s) : ShopG (bareS s) := by
  refine ⟨by unfold bareS; rw [List.length_map]; exact h.lo, by unfold bareS; rw [List.length_map]; exact h.hi, by rw [bare_names]; exact h.nd, fun w hw => ?_, fun w hw p hp => ?_, ?_⟩
  · obtain ⟨v, hv, rfl⟩ := List.mem_map.mp hw
    have := h.ws v hv
    exact ⟨this.nm, by show (0 : Int) ≤ 0 ∧ (0 : Int) ≤ 30; decide, this.gives, by show Amt 0; decide, by show Amt 0; decide, Nat.zero_le _, fun p hp => (by cases hp), this.pl, this.pn, this.parts⟩
  · obtain ⟨v, hv, rfl⟩ := List.mem_map.mp hw
    rw [bare_names]
    exact h.sub v hv p hp
  · rw [bare_names]
    refine ⟨by unfold bareS; rw [List.length_map]; exact h.wants.len, fun v hv => ?_⟩
    obtain ⟨u, hu, rfl⟩ := List.mem_map.mp hv
    have := h.wants.ok u hu
    exact ⟨this.1, by show (0 : Int) ≤ 0 ∧ (0 : Int) ≤ 400; decide, this.2.2⟩
theorem bare_want (s : Shop) (nm : Str) : wantAll (bareS s).wants nm = wantAll s.wants nm := by
  unfold wantAll bareS
  rw [List.filter_map, List.map_map]
  rfl
theorem bare_from {s : Shop} (nd : s.names.Nodup) (f : Str → Int) (nm : Str) : fromNo (bareS s) f nm = fromNo s f nm := by
  unfold fromNo
  rw [bare_want, takes_ws (by rw [bare_names]; exact nd), takes_ws nd]
  congr 2
  unfold bareS
  rw [List.map_map]
  rfl
theorem bare_expl {s : Shop} (nd : s.names.Nodup) {f : Str → Int} (h : ExplTo (bareS s) (bareS s).names f) : ExplTo s s.names f := fun w hw hl => by
  have := h (bareW w) (List.mem_map_of_mem hw) (by rw [bare_names]; exact hl)
  rw [bare_from nd] at this
  exact this
end N

--@uses levels
namespace N
open PySem L2 VL
def intsD (ns : List Int) : D := .lst (ns.map D.int)
/-- the lots begun on each day, of lots that come lag days later -/
def begunRow (lag : Int) (row : List Int) : List Int := row.drop lag.toNat ++ List.replicate (min lag.toNat row.length) 0
end N
namespace N
open PySem L2 VL
def rowF (n : Nat) (f : Nat → Int) : List Int := (List.range n).map f
theorem rowF_len (n : Nat) (f : Nat → Int) : (rowF n f).length = n := by
  unfold rowF
  rw [List.length_map, List.length_range]
theorem rowF_get {n d : Nat} {f : Nat → Int} (h : d < n) : (rowF n f)[d]? = some (f d) := by
  unfold rowF
  rw [List.getElem?_map, List.getElem?_range h]
  rfl
theorem rowF_set {n d : Nat} {f : Nat → Int} {x : Int} : (rowF n f).set d x = rowF n fun e => if e = d then x else f e := by
  refine List.ext_getElem? fun e => ?_
  by_cases he : e < n
  · rw [rowF_get he]
    by_cases q : d = e
    · subst q
      rw [List.getElem?_set_self (by rw [rowF_len]; exact he), if_pos rfl]
    · rw [List.getElem?_set_ne q, rowF_get he, if_neg (fun z => q z.symm)]
  · rw [List.getElem?_eq_none (by rw [List.length_set, rowF_len]; omega), List.getElem?_eq_none (by rw [rowF_len]; omega)]
theorem rowF_zero (n : Nat) : List.replicate n (0 : Int) = rowF n fun _ => 0 := by
  unfold rowF
  exact (List.map_const' (l := List.range n) (b := (0 : Int))).symm ▸ (by rw [List.length_range])
theorem rowF_congr {n : Nat} {f g : Nat → Int} (h : ∀ d, d < n → f d = g d) : rowF n f = rowF n g := List.map_congr_left fun d hd => h d (List.mem_range.mp hd)
/-- what comes on a day -/
def comesOn (com : List (Int × Int)) (d : Nat) : Int := ((com.filter fun p => decide (p.1 = (d : Int))).map fun p => p.2).sum
def hadF (w : Ware) (d : Nat) : Int := (if d = 0 then w.stock else 0) + comesOn w.com d
theorem comes_snoc (com : List (Int × Int)) (p : Int × Int) (d : Nat) : comesOn (com ++ [p]) d = comesOn com d + if p.1 = (d : Int) then p.2 else 0 := by
  unfold comesOn
  rw [List.filter_append, List.map_append, List.sum_append]
  congr 1
  by_cases h : p.1 = (d : Int)
  · rw [if_pos h]
    simp [h]
  · rw [if_neg h]
    simp [h]
end N
namespace N
open PySem L2 VL
/-- what is wanted of a name on a day -/
def wantOn (wants : List Want) (nm : Str) (d : Nat) : Int := ((wants.filter fun w => decide (w.1 = nm ∧ w.2.1 = (d : Int))).map fun w => w.2.2).sum
theorem wantOn_snoc (ws : List Want) (w : Want) (nm : Str) (d : Nat) : wantOn (ws ++ [w]) nm d = wantOn ws nm d + if w.1 = nm ∧ w.2.1 = (d : Int) then w.2.2 else 0 := by
  unfold wantOn
  rw [List.filter_append, List.map_append, List.sum_append]
  congr 1
  by_cases h : w.1 = nm ∧ w.2.1 = (d : Int)
  · rw [if_pos h]
    simp [h]
  · rw [if_neg h]
    simp [h]
/-- the row of a ware in a plan, its lots begun on a day -/
def begunOn (pl : List (Str × List Int)) (v : Ware) (d : Nat) : Int := (begunRow v.lag ((getS pl v.nm).getD [])).getD d 0
/-- what some parts take of a name on a day -/
def takeParts (pl : List (Str × List Int)) (v : Ware) (ps : List (Str × Int)) (nm : Str) (d : Nat) : Int := ((ps.filter fun p => decide (p.1 = nm)).map fun p => p.2 * begunOn pl v d).sum
theorem takeParts_snoc (pl : List (Str × List Int)) (v : Ware) (ps : List (Str × Int)) (p : Str × Int) (nm : Str) (d : Nat) : takeParts pl v (ps ++ [p]) nm d = takeParts pl v ps nm d + if p.1 = nm then p.2 * begunOn pl v d else 0 := by
  unfold takeParts
  rw [List.filter_append, List.map_append, List.sum_append]
  congr 1
  by_cases h : p.1 = nm
  · rw [if_pos h]
    simp [h]
  · rw [if_neg h]
    simp [h]
/-- what wares take of a name on a day -/
def takeOn (pl : List (Str × List Int)) (vs : List Ware) (nm : Str) (d : Nat) : Int := (vs.map fun v => takeParts pl v v.parts nm d).sum
theorem takeOn_snoc (pl : List (Str × List Int)) (vs : List Ware) (v : Ware) (nm : Str) (d : Nat) : takeOn pl (vs ++ [v]) nm d = takeOn pl vs nm d + takeParts pl v v.parts nm d := by
  unfold takeOn
  rw [List.map_append, List.sum_append]
  simp
def needF (s : Shop) (pl : List (Str × List Int)) (nm : Str) (d : Nat) : Int := wantOn s.wants nm d + takeOn pl s.ws nm d
theorem begunRow_len {lag : Int} {row : List Int} (h : 0 ≤ lag) : (begunRow lag row).length = row.length := by
  unfold begunRow
  rw [List.length_append, List.length_drop, List.length_replicate]
  omega
theorem begunRow_mem {lag : Int} {row : List Int} {x : Int} (h : x ∈ begunRow lag row) : x ∈ row ∨ x = 0 := by
  unfold begunRow at h
  rcases List.mem_append.mp h with h | h
  · exact .inl (List.mem_of_mem_drop h)
  · exact .inr (List.eq_of_mem_replicate h)
/-- how many days a shop has -/
structure DaysOf (s : Shop) (n : Int) : Prop where
  one : 1 ≤ n
  up : ∀ w ∈ s.wants, w.2.1 + 1 ≤ n
  is : n = 1 ∨ ∃ w ∈ s.wants, n = w.2.1 + 1
theorem want3 (w : Want) : wantD w = .tup [.str w.1, .int w.2.1, .int w.2.2] := rfl
theorem days_uniq {s : Shop} {n m : Int} (hn : DaysOf s n) (hm : DaysOf s m) : m = n := by
  have a1 : m ≤ n := by
    rcases hm.is with e | ⟨v, hv, e⟩
    · have := hn.one
      omega
    · have := hn.up v hv
      omega
  have a2 : n ≤ m := by
    rcases hn.is with e | ⟨v, hv, e⟩
    · have := hm.one
      omega
    · have := hm.up v hv
      omega
  omega
end N

--@uses so_far
namespace N
open PySem L2 VL
/-- the least lots, day by day -/
def llGo (g f : Int) : Int → List (Int × Int) → List Int
  | _, [] => []
  | l, (t, n) :: r => (max l (-((t - n - f) / g)) - l) :: llGo g f (max l (-((t - n - f) / g))) r
def leastLots (have_ need : List Int) (g f : Int) : List Int := llGo g f 0 ((soFar 0 have_).zip (soFar 0 need))
/-- how many lots have come behind the days -/
def llAt (g f : Int) : Int → List (Int × Int) → Int
  | l, [] => l
  | l, (t, n) :: r => llAt g f (max l (-((t - n - f) / g))) r
theorem llAt_app (g f : Int) : ∀ (l : Int) (xs : List (Int × Int)) (t n : Int), llAt g f l (xs ++ [(t, n)]) = max (llAt g f l xs) (-((t - n - f) / g))
  | _, [], _, _ => rfl
  | l, (a, b) :: r, t, n => llAt_app g f _ r t n
theorem llGo_app (g f : Int) : ∀ (l : Int) (xs : List (Int × Int)) (t n : Int), llGo g f l (xs ++ [(t, n)]) = llGo g f l xs ++ [max (llAt g f l xs) (-((t - n - f) / g)) - llAt g f l xs]
  | _, [], _, _ => rfl
  | l, (a, b) :: r, t, n => by
    show _ :: llGo g f _ (r ++ [(t, n)]) = _ :: (llGo g f _ r ++ _)
    rw [llGo_app g f _ r t n]
    rfl
theorem llGo_len (g f : Int) : ∀ (l : Int) (xs : List (Int × Int)), (llGo g f l xs).length = xs.length
  | _, [] => rfl
  | _, (_, _) :: r => congrArg (· + 1) (llGo_len g f _ r)
theorem llGo_sum (g f : Int) : ∀ (l : Int) (xs : List (Int × Int)), l + (llGo g f l xs).sum = llAt g f l xs
  | l, [] => by simp [llGo, llAt]
  | l, (t, n) :: r => by
    have ih := llGo_sum g f (max l (-((t - n - f) / g))) r
    show l + ((max l (-((t - n - f) / g)) - l) :: llGo g f _ r).sum = llAt g f (max l (-((t - n - f) / g))) r
    rw [← ih, List.sum_cons]
    omega
theorem llGo_nn (g f : Int) : ∀ (l : Int) (xs : List (Int × Int)), ∀ x ∈ llGo g f l xs, 0 ≤ x
  | _, [], x, h => by cases h
  | l, (t, n) :: r, x, h => by
    rcases List.mem_cons.mp h with rfl | h
    · omega
    · exact llGo_nn g f _ r x h
theorem llGo_take (g f : Int) : ∀ (l : Int) (xs : List (Int × Int)) (i : Nat), (llGo g f l xs).take i = llGo g f l (xs.take i)
  | _, [], i => by cases i <;> rfl
  | _, (_, _) :: _, 0 => rfl
  | l, (t, n) :: r, i + 1 => by
    show _ :: (llGo g f _ r).take i = _ :: llGo g f _ (r.take i)
    rw [llGo_take g f _ r i]
theorem leastLots_len (a b : List Int) (g f : Int) : (leastLots a b g f).length = min a.length b.length := by
  unfold leastLots
  rw [llGo_len, List.length_zip, soFar_len, soFar_len]
theorem zip_get {α β : Type} {l : List α} {m : List β} {i : Nat} {a : α} {b : β} (h1 : l[i]? = some a) (h2 : m[i]? = some b) : (l.zip m)[i]? = some (a, b) := List.getElem?_zip_eq_some.mpr ⟨h1, h2⟩
end N

--@uses least_lots
namespace N
open PySem L2 VL
theorem soFar_get : ∀ (t : Int) (l : List Int) (k : Nat) (x : Int), l[k]? = some x → (soFar t l)[k]? = some (t + (l.take (k + 1)).sum)
  | _, [], _, _, h => by simp at h
  | t, y :: r, 0, x, h => by simp [soFar]
  | t, y :: r, k + 1, x, h => by
    have h' : r[k]? = some x := by simpa using h
    have ih := soFar_get (t + y) r k x h'
    show (soFar (t + y) r)[k]? = _
    rw [ih, List.take_succ_cons, List.sum_cons]
    congr 1
    omega
theorem ceil_ok {g z : Int} (hg : 0 < g) : z ≤ (-((-z) / g)) * g ∧ (-((-z) / g)) * g < z + g := by
  have h1 := Int.mul_ediv_self_le (x := -z) (k := g) (by omega)
  have h2 := Int.lt_mul_ediv_self_add (x := -z) (k := g) hg
  have e : (-((-z) / g)) * g = -(g * ((-z) / g)) := by rw [Int.neg_mul, Int.mul_comm]
  rw [e]
  omega
/-- what is left at the end of day i -/
def leftAt (a b : List Int) (g : Int) (l : List Int) (i : Nat) : Int := (a.take (i + 1)).sum - (b.take (i + 1)).sum + (l.take (i + 1)).sum * g
theorem least_right {a b : List Int} {g f : Int} (hg : 0 < g) {i : Nat} {x p q : Int} (hx : (leastLots a b g f)[i]? = some x) (hp : a[i]? = some p) (hq : b[i]? = some q) :
    0 ≤ x ∧ f ≤ leftAt a b g (leastLots a b g f) i ∧ (0 < x → leftAt a b g (leastLots a b g f) i - g < f) := by
  have ht := soFar_get 0 a i p hp
  have hn := soFar_get 0 b i q hq
  have hz := zip_get ht hn
  have e1 : (leastLots a b g f).take (i + 1) = llGo g f 0 (((soFar 0 a).zip (soFar 0 b)).take (i + 1)) := llGo_take _ _ _ _ _
  have e2 := llGo_sum g f 0 (((soFar 0 a).zip (soFar 0 b)).take (i + 1))
  have e0 : (leastLots a b g f).take i = llGo g f 0 (((soFar 0 a).zip (soFar 0 b)).take i) := llGo_take _ _ _ _ _
  rw [take_one hz, llAt_app] at e2
  rw [take_one hz] at e1
  have e3 : x = max (llAt g f 0 (((soFar 0 a).zip (soFar 0 b)).take i)) (-((0 + (a.take (i + 1)).sum - (0 + (b.take (i + 1)).sum) - f) / g)) - llAt g f 0 (((soFar 0 a).zip (soFar 0 b)).take i) := by
    rw [take_one hx, llGo_app, e0] at e1
    simpa using e1
  have ex : 0 ≤ x := llGo_nn g f 0 _ x (List.mem_of_getElem? hx)
  unfold leftAt
  rw [e1]
  generalize hS : (llGo g f 0 (((soFar 0 a).zip (soFar 0 b)).take i ++ [(0 + (a.take (i + 1)).sum, 0 + (b.take (i + 1)).sum)])).sum = S at e2
  generalize hL : llAt g f 0 (((soFar 0 a).zip (soFar 0 b)).take i) = Lp at e2 e3
  generalize hA : (a.take (i + 1)).sum = A at e2 e3
  generalize hB : (b.take (i + 1)).sum = C at e2 e3
  have ec := ceil_ok (g := g) (z := f - (A - C)) hg
  have ez : -(f - (A - C)) = 0 + A - (0 + C) - f := by omega
  rw [ez] at ec
  generalize hq' : -((0 + A - (0 + C) - f) / g) = qq at ec e2 e3
  refine ⟨ex, ?_, fun hx0 => ?_⟩
  · have : qq * g ≤ S * g := Int.mul_le_mul_of_nonneg_right (by omega) (by omega)
    omega
  · have : S = qq := by omega
    rw [this]
    omega
theorem llAt_le {g f M : Int} : ∀ (l : Int) (xs : List (Int × Int)), l ≤ M → (∀ p ∈ xs, -((p.1 - p.2 - f) / g) ≤ M) → llAt g f l xs ≤ M
  | _, [], h, _ => h
  | l, (t, n) :: r, h, hx => llAt_le _ r (by have := hx (t, n) List.mem_cons_self; simp only at this; omega) fun p hp => hx p (List.mem_cons_of_mem _ hp)
theorem llGo_le {g f M : Int} : ∀ (l : Int) (xs : List (Int × Int)), 0 ≤ l → (∀ p ∈ xs, -((p.1 - p.2 - f) / g) ≤ M) → ∀ x ∈ llGo g f l xs, x ≤ M ∨ x ≤ 0
  | _, [], _, _, x, h => by cases h
  | l, (t, n) :: r, h0, hx, x, h => by
    rcases List.mem_cons.mp h with rfl | h
    · have := hx (t, n) List.mem_cons_self
      simp only at this
      omega
    · exact llGo_le _ r (by omega) (fun p hp => hx p (List.mem_cons_of_mem _ hp)) x h
theorem div_low {z g M : Int} (hg : 0 < g) (hz : -M ≤ z) (hM : 0 ≤ M) : -(z / g) ≤ M := by
  have : -M ≤ z / g := by
    rw [Int.le_ediv_iff_mul_le hg]
    have : M * 1 ≤ M * g := Int.mul_le_mul_of_nonneg_left (by omega) hM
    have e : -M * g = -(M * g) := Int.neg_mul M g
    omega
  omega
theorem sum_le {M : Int} : ∀ {l : List Int}, (∀ x ∈ l, 0 ≤ x ∧ x ≤ M) → 0 ≤ l.sum ∧ l.sum ≤ l.length * M
  | [], _ => by simp
  | x :: r, h => by
    have h1 := h x List.mem_cons_self
    have h2 := sum_le (l := r) fun y hy => h y (List.mem_cons_of_mem _ hy)
    have e : ((r.length + 1 : Nat) : Int) * M = r.length * M + M := by
      rw [Int.natCast_add, Int.add_mul]
      simp
    rw [List.sum_cons, List.length_cons, e]
    omega
theorem log_lt {x : Int} {n : Nat} (h0 : 0 ≤ x) (h : x < 2 ^ n) (hn : 0 < n) : x.natAbs.log2 < n := by
  by_cases e : x.natAbs = 0
  · rw [e]
    simpa using hn
  · rw [Nat.log2_lt e]
    have : ((x.natAbs : Nat) : Int) < ((2 ^ n : Nat) : Int) := by
      rw [Int.natAbs_of_nonneg h0]
      simpa using h
    exact Int.ofNat_lt.mp this
end N

--@uses explode plan least_right
namespace N
open PySem L2 VL
/-! ### the least plan -/
theorem takeParts_eq (pl : List (Str × List Int)) (v : Ware) (ps : List (Str × Int)) (nm : Str) (d : Nat) : takeParts pl v ps nm d = partSum ps nm * begunOn pl v d := by
  unfold takeParts partSum
  induction ps with
  | nil => simp
  | cons p r ih =>
    by_cases h : p.1 = nm
    · rw [List.filter_cons_of_pos (by simpa using h), List.map_cons, List.sum_cons, ih, List.map_cons, List.sum_cons, Int.add_mul]
    · rw [List.filter_cons_of_neg (by simpa using h), ih]
theorem takeOn_congr {pl pl' : List (Str × List Int)} {nm : Str} {d : Nat} : ∀ {vs : List Ware}, (∀ v ∈ vs, partSum v.parts nm * begunOn pl v d = partSum v.parts nm * begunOn pl' v d) → takeOn pl vs nm d = takeOn pl' vs nm d
  | [], _ => rfl
  | v :: r, h => by
    have ih := takeOn_congr (vs := r) fun u hu => h u (List.mem_cons_of_mem _ hu)
    unfold takeOn at ih ⊢
    rw [List.map_cons, List.sum_cons, List.map_cons, List.sum_cons, ih, takeParts_eq, takeParts_eq, h v List.mem_cons_self]
theorem needF_congr {s : Shop} {pl pl' : List (Str × List Int)} {nm : Str} (h : ∀ v ∈ s.ws, nm ∈ v.parts.map (·.1) → getS pl v.nm = getS pl' v.nm) (d : Nat) : needF s pl nm d = needF s pl' nm d := by
  unfold needF
  congr 1
  refine takeOn_congr fun v hv => ?_
  by_cases e : nm ∈ v.parts.map (·.1)
  · unfold begunOn
    rw [h v hv e]
  · rw [partSum_none fun p hp q => e (by rw [← q]; exact List.mem_map_of_mem (f := (·.1)) hp)]
    simp
/-- the least row of a name, by the rows ahead -/
def rowAt (s : Shop) (n : Nat) (pl : List (Str × List Int)) (x : Str) : List Int := match s.ws.find? fun v => decide (v.nm = x) with
  | some w => leastLots (rowF n (hadF w)) (rowF n (needF s pl w.nm)) w.gives w.floor
  | none => []
theorem rowAt_eq {s : Shop} (nd : s.names.Nodup) {n : Nat} {pl : List (Str × List Int)} {w : Ware} (hw : w ∈ s.ws) : rowAt s n pl w.nm = leastLots (rowF n (hadF w)) (rowF n (needF s pl w.nm)) w.gives w.floor := by
  unfold rowAt
  rw [find_ware nd hw]
def planTo (s : Shop) (n : Nat) : Nat → List (Str × List Int)
  | 0 => []
  | i + 1 => match (workedOf s)[i]? with
    | some x => planTo s n i ++ [(x, rowAt s n (planTo s n i) x)]
    | none => planTo s n i
def leastPlan (s : Shop) (n : Nat) : List (Str × List Int) := planTo s n (workedOf s).length
theorem planTo_succ {s : Shop} {n i : Nat} {x : Str} (h : (workedOf s)[i]? = some x) : planTo s n (i + 1) = planTo s n i ++ [(x, rowAt s n (planTo s n i) x)] := by
  show (match (workedOf s)[i]? with | some x => _ | none => _) = _
  rw [h]
theorem planTo_keys (s : Shop) (n : Nat) : ∀ i, i ≤ (workedOf s).length → (planTo s n i).map (·.1) = (workedOf s).take i
  | 0, _ => by rw [List.take_zero]; rfl
  | i + 1, h => by
    have hx : (workedOf s)[i]? = some (workedOf s)[i] := List.getElem?_eq_getElem (by omega)
    rw [planTo_succ hx, List.map_append, planTo_keys s n i (by omega), take_one hx]
    rfl
theorem getS_app_left {α : Type} : ∀ {t u : List (Str × α)} {k : Str}, k ∈ t.map (·.1) → getS (t ++ u) k = getS t k
  | [], _, _, h => by cases h
  | (a, x) :: r, u, k, h => by
    show (if a = k then some x else getS (r ++ u) k) = if a = k then some x else getS r k
    by_cases e : a = k
    · rw [if_pos e, if_pos e]
    · rw [if_neg e, if_neg e]
      rw [List.map_cons] at h
      exact getS_app_left ((List.mem_cons.mp h).resolve_left fun q => e q.symm)
theorem getS_app_right {α : Type} : ∀ {t u : List (Str × α)} {k : Str}, k ∉ t.map (·.1) → getS (t ++ u) k = getS u k
  | [], _, _, _ => rfl
  | (a, x) :: r, u, k, h => by
    rw [List.map_cons] at h
    show (if a = k then some x else getS (r ++ u) k) = getS u k
    rw [if_neg fun e => h (by rw [e]; exact List.mem_cons_self)]
    exact getS_app_right fun q => h (List.mem_cons_of_mem _ q)
theorem planTo_pre {s : Shop} {n i j : Nat} (hij : i ≤ j) (hj : j ≤ (workedOf s).length) {x : Str} (hx : x ∈ (workedOf s).take i) : getS (planTo s n j) x = getS (planTo s n i) x := by
  induction j with
  | zero =>
    have : i = 0 := by omega
    rw [this]
  | succ j ih =>
    by_cases e : i = j + 1
    · rw [e]
    · have hy : (workedOf s)[j]? = some (workedOf s)[j] := List.getElem?_eq_getElem (by omega)
      rw [planTo_succ hy, getS_app_left (by rw [planTo_keys s n j (by omega)]; exact (List.take_subset_take_left _ (by omega)) hx)]
      exact ih (by omega) (by omega)
def rowOf (s : Shop) (n : Nat) (x : Str) : List Int := (getS (leastPlan s n) x).getD []
theorem planTo_get {s : Shop} (nd : s.names.Nodup) {n i : Nat} {x : Str} (hx : (workedOf s)[i]? = some x) {j : Nat} (hij : i < j) (hj : j ≤ (workedOf s).length) : getS (planTo s n j) x = some (rowAt s n (planTo s n i) x) := by
  have hil := lt_of_get hx
  have hm : x ∈ (workedOf s).take (i + 1) := by rw [take_one hx]; exact List.mem_append_right _ (List.mem_singleton.mpr rfl)
  rw [planTo_pre (i := i + 1) hij hj hm, planTo_succ hx, getS_app_right (by rw [planTo_keys s n i (by omega)]; exact not_take (workedOf_nodup nd) hx)]
  show (if x = x then some _ else none) = _
  rw [if_pos rfl]
theorem rowOf_get {s : Shop} (nd : s.names.Nodup) {n i : Nat} {x : Str} (hx : (workedOf s)[i]? = some x) {j : Nat} (hij : i < j) (hj : j ≤ (workedOf s).length) : getS (planTo s n j) x = some (rowOf s n x) := by
  have h1 := planTo_get (n := n) nd hx hij hj
  have h2 : getS (leastPlan s n) x = some (rowAt s n (planTo s n i) x) := planTo_get nd hx (lt_of_get hx) (Nat.le_refl _)
  unfold rowOf
  rw [h1, h2]
  rfl
theorem plan_get {s : Shop} (nd : s.names.Nodup) {n : Nat} {x : Str} (hx : x ∈ s.names) : getS (leastPlan s n) x = some (rowOf s n x) := by
  obtain ⟨i, hi⟩ := List.getElem?_of_mem (workedOf_mem.mpr hx)
  exact rowOf_get nd hi (lt_of_get hi) (Nat.le_refl _)
theorem planTo_fn {s : Shop} (nd : s.names.Nodup) {n : Nat} : ∀ i, i ≤ (workedOf s).length → planTo s n i = fnS ((workedOf s).take i) (rowOf s n)
  | 0, _ => by rw [List.take_zero]; rfl
  | i + 1, h => by
    have hx : (workedOf s)[i]? = some (workedOf s)[i] := List.getElem?_eq_getElem (by omega)
    have hr : rowOf s n (workedOf s)[i] = rowAt s n (planTo s n i) (workedOf s)[i] := by
      have h2 : getS (leastPlan s n) (workedOf s)[i] = some (rowAt s n (planTo s n i) (workedOf s)[i]) := planTo_get nd hx (by omega) (Nat.le_refl _)
      unfold rowOf
      rw [h2]
      rfl
    rw [take_one hx, planTo_succ hx, planTo_fn nd i (by omega)]
    unfold fnS
    rw [List.map_append, List.map_cons, hr, planTo_fn nd i (by omega)]
    rfl
theorem plan_fn {s : Shop} (nd : s.names.Nodup) {n : Nat} : leastPlan s n = fnS (workedOf s) (rowOf s n) := by
  have := planTo_fn nd (n := n) (workedOf s).length (Nat.le_refl _)
  rw [List.take_length] at this
  exact this
/-- the users of a name have their rows by then -/
theorem need_ahead {s : Shop} (hA : ShopA s) {n i : Nat} {x : Str} (hx : (workedOf s)[i]? = some x) (d : Nat) : needF s (planTo s n i) x d = needF s (leastPlan s n) x d := needF_congr (fun v hv hm => by
  obtain ⟨p, hp, e⟩ := List.mem_map.mp hm
  have hvn : v.nm ∈ s.names := List.mem_map_of_mem (f := fun w : Ware => w.nm) hv
  obtain ⟨k, hk⟩ := List.getElem?_of_mem (workedOf_mem.mpr hvn)
  obtain ⟨j, hj, hj2⟩ := parts_behind hA hv hk hp
  rw [e] at hj2
  have hji := (List.getElem?_inj (lt_of_get hj2) (workedOf_nodup hA.ok.nd)).mp (hj2.trans hx.symm)
  subst hji
  rw [rowOf_get hA.ok.nd hk hj (Nat.le_of_lt (lt_of_get hx)), plan_get hA.ok.nd hvn]) d
/-- THE LEAST PLAN: each row is the least, by the rows of the plan -/
theorem rowOf_eq {s : Shop} (hA : ShopA s) {n : Nat} {w : Ware} (hw : w ∈ s.ws) : rowOf s n w.nm = leastLots (rowF n (hadF w)) (rowF n (needF s (leastPlan s n) w.nm)) w.gives w.floor := by
  have hwn : w.nm ∈ s.names := List.mem_map_of_mem (f := fun w : Ware => w.nm) hw
  obtain ⟨i, hi⟩ := List.getElem?_of_mem (workedOf_mem.mpr hwn)
  have h2 : getS (leastPlan s n) w.nm = some (rowAt s n (planTo s n i) w.nm) := planTo_get hA.ok.nd hi (lt_of_get hi) (Nat.le_refl _)
  have h3 : rowOf s n w.nm = rowAt s n (planTo s n i) w.nm := by unfold rowOf; rw [h2]; rfl
  rw [h3, rowAt_eq hA.ok.nd hw, rowF_congr fun d _ => need_ahead hA hi d]
theorem rowOf_len {s : Shop} (hA : ShopA s) {n : Nat} {w : Ware} (hw : w ∈ s.ws) : (rowOf s n w.nm).length = n := by
  rw [rowOf_eq hA hw, leastLots_len, rowF_len, rowF_len, Nat.min_self]
theorem rowOf_nn {s : Shop} (hA : ShopA s) {n : Nat} {w : Ware} (hw : w ∈ s.ws) : ∀ x ∈ rowOf s n w.nm, 0 ≤ x := by
  rw [rowOf_eq hA hw]
  exact llGo_nn _ _ _ _
/-! ### how great the numbers of the least plan are -/
structure PlanIn (s : Shop) (n : Nat) : Prop where
  a : ShopA s
  ws : ∀ w ∈ s.ws, WareG w
  hi : s.ws.length ≤ 12
  dn : DaysOf s n
  wl : s.wants.length ≤ 30
  w : ∀ v ∈ s.wants, (0 ≤ v.2.1 ∧ v.2.1 ≤ 900) ∧ 0 ≤ v.2.2 ∧ v.2.2 < 2 ^ 1000
theorem rowF_sum_add (n : Nat) (f g : Nat → Int) : (rowF n fun d => f d + g d).sum = (rowF n f).sum + (rowF n g).sum := by
  unfold rowF
  induction n with
  | zero => rfl
  | succ n ih =>
    rw [List.range_succ, List.map_append, List.map_append, List.map_append, List.sum_append, List.sum_append, List.sum_append, ih]
    simp
    omega
theorem rowF_sum_mul (n : Nat) (c : Int) (f : Nat → Int) : (rowF n fun d => c * f d).sum = c * (rowF n f).sum := by
  unfold rowF
  induction n with
  | zero => simp
  | succ n ih =>
    rw [List.range_succ, List.map_append, List.map_append, List.sum_append, List.sum_append, ih]
    simp [Int.mul_add]
theorem rowF_sum_one (n k : Nat) (c : Int) (hc : 0 ≤ c) : 0 ≤ (rowF n fun d => if d = k then c else 0).sum ∧ (rowF n fun d => if d = k then c else 0).sum ≤ c ∧ (n ≤ k → (rowF n fun d => if d = k then c else 0).sum = 0) := by
  unfold rowF
  induction n with
  | zero => simp [hc]
  | succ n ih =>
    rw [List.range_succ, List.map_append, List.sum_append]
    simp only [List.map_cons, List.map_nil, List.sum_cons, List.sum_nil, Int.add_zero]
    by_cases e : n = k
    · subst e
      have := ih.2.2 (Nat.le_refl _)
      rw [if_pos rfl]
      omega
    · rw [if_neg e]
      omega
theorem wants_sum {c : Int} (nm : Str) (n : Nat) : ∀ (vs : List Want), (∀ v ∈ vs, 0 ≤ v.2.1 ∧ 0 ≤ v.2.2 ∧ v.2.2 ≤ c) → 0 ≤ (rowF n (wantOn vs nm)).sum ∧ (rowF n (wantOn vs nm)).sum ≤ vs.length * c := by
  intro vs
  induction vs with
  | nil =>
    intro _
    have : (rowF n (wantOn [] nm)).sum = 0 := by
      rw [show rowF n (wantOn [] nm) = rowF n (fun d => 0 * (0 : Int)) from rowF_congr fun d _ => by rfl, rowF_sum_mul]
      simp
    rw [this]
    simp
  | cons v r ih =>
    intro h
    have ih := ih fun u hu => h u (List.mem_cons_of_mem _ hu)
    obtain ⟨h1, h2, h3⟩ := h v List.mem_cons_self
    have e : rowF n (wantOn (v :: r) nm) = rowF n fun d => (if d = v.2.1.toNat then (if v.1 = nm then v.2.2 else 0) else 0) + wantOn r nm d := rowF_congr fun d _ => by
      unfold wantOn
      rw [List.filter_cons]
      by_cases q : v.1 = nm ∧ v.2.1 = (d : Int)
      · rw [if_pos (by simpa using q), List.map_cons, List.sum_cons, if_pos (by omega), if_pos q.1]
      · rw [if_neg (by simpa using q)]
        by_cases q1 : d = v.2.1.toNat
        · rw [if_pos q1, if_neg fun z => q ⟨z, by omega⟩, Int.zero_add]
        · rw [if_neg q1, Int.zero_add]
    have hone := rowF_sum_one n v.2.1.toNat (if v.1 = nm then v.2.2 else 0) (by split <;> omega)
    have hle : (if v.1 = nm then v.2.2 else 0) ≤ c := by split <;> omega
    rw [e, rowF_sum_add, List.length_cons]
    have e2 : ((r.length + 1 : Nat) : Int) * c = r.length * c + c := by
      rw [Int.natCast_add, Int.add_mul]
      simp
    rw [e2]
    omega
theorem range_getD : ∀ (l : List Int), rowF l.length (fun d => l.getD d 0) = l := fun l => by
  refine List.ext_getElem? fun d => ?_
  by_cases h : d < l.length
  · rw [rowF_get h, List.getD_eq_getElem?_getD, List.getElem?_eq_getElem h]
    rfl
  · rw [List.getElem?_eq_none (by rw [rowF_len]; omega), List.getElem?_eq_none (by omega)]
theorem sum_nn {l : List Int} (h : ∀ x ∈ l, 0 ≤ x) : 0 ≤ l.sum := by
  induction l with
  | nil => simp
  | cons x r ih =>
    rw [List.sum_cons]
    have := h x List.mem_cons_self
    have := ih fun y hy => h y (List.mem_cons_of_mem _ hy)
    omega
theorem mem_le_sum {l : List Int} (h : ∀ x ∈ l, 0 ≤ x) : ∀ x ∈ l, x ≤ l.sum := by
  induction l with
  | nil => intro x hx; cases hx
  | cons y r ih =>
    intro x hx
    rw [List.sum_cons]
    have h0 := h y List.mem_cons_self
    have h1 := sum_nn fun z hz => h z (List.mem_cons_of_mem y hz)
    rcases List.mem_cons.mp hx with rfl | hx
    · omega
    · have := ih (fun z hz => h z (List.mem_cons_of_mem y hz)) x hx
      omega
theorem begun_sum {lag : Int} (h0 : 0 ≤ lag) {row : List Int} (h : ∀ x ∈ row, 0 ≤ x) {n : Nat} (hn : row.length = n) : 0 ≤ (rowF n fun d => (begunRow lag row).getD d 0).sum ∧ (rowF n fun d => (begunRow lag row).getD d 0).sum ≤ row.sum := by
  have hl := begunRow_len (row := row) h0
  rw [← hn, ← hl, range_getD]
  have e := List.take_append_drop lag.toNat row
  have e2 : row.sum = (row.take lag.toNat).sum + (row.drop lag.toNat).sum := by
    rw [← List.sum_append, e]
  have h1 := sum_nn fun x hx => h x (List.mem_of_mem_take (i := lag.toNat) (l := row) hx)
  have h2 := sum_nn fun x hx => h x (List.mem_of_mem_drop (i := lag.toNat) (l := row) hx)
  have h3 : (begunRow lag row).sum = (row.drop lag.toNat).sum := by
    unfold begunRow
    rw [List.sum_append, List.sum_replicate_int]
    simp
  rw [h3]
  omega
theorem takes_sum {s : Shop} {pl : List (Str × List Int)} {nm : Str} {n : Nat} {S : Int} (hS : 0 ≤ S) : ∀ (vs : List Ware), (∀ v ∈ vs, WareG v) → (∀ v ∈ vs, nm ∈ v.parts.map (·.1) → ∃ row, getS pl v.nm = some row ∧ row.length = n ∧ (∀ x ∈ row, 0 ≤ x) ∧ row.sum ≤ S) →
    0 ≤ (rowF n (takeOn pl vs nm)).sum ∧ (rowF n (takeOn pl vs nm)).sum ≤ vs.length * (10 ^ 43 * S) := by
  intro vs
  induction vs with
  | nil =>
    intro _ _
    have : (rowF n (takeOn pl [] nm)).sum = 0 := by
      rw [show rowF n (takeOn pl [] nm) = rowF n (fun d => 0 * (0 : Int)) from rowF_congr fun d _ => by rfl, rowF_sum_mul]
      simp
    rw [this]
    simp
  | cons v r ih =>
    intro hg h
    have ih := ih (fun u hu => hg u (List.mem_cons_of_mem _ hu)) fun u hu => h u (List.mem_cons_of_mem _ hu)
    have e : rowF n (takeOn pl (v :: r) nm) = rowF n fun d => partSum v.parts nm * begunOn pl v d + takeOn pl r nm d := rowF_congr fun d _ => by
      unfold takeOn
      rw [List.map_cons, List.sum_cons, takeParts_eq]
    have hps := partSum_le (hg v List.mem_cons_self) nm
    have key : 0 ≤ partSum v.parts nm * (rowF n (begunOn pl v)).sum ∧ partSum v.parts nm * (rowF n (begunOn pl v)).sum ≤ 10 ^ 43 * S := by
      by_cases q : nm ∈ v.parts.map (·.1)
      · obtain ⟨row, h1, h2, h3, h4⟩ := h v List.mem_cons_self q
        have hb := begun_sum (hg v List.mem_cons_self).lag.1 h3 h2
        have e3 : rowF n (begunOn pl v) = rowF n fun d => (begunRow v.lag row).getD d 0 := rowF_congr fun d _ => by
          unfold begunOn
          rw [h1]
          rfl
        rw [e3]
        refine ⟨Int.mul_nonneg hps.1 hb.1, ?_⟩
        have a := Int.mul_le_mul_of_nonneg_right hps.2 hb.1
        have b := Int.mul_le_mul_of_nonneg_left (Int.le_trans hb.2 h4) (show (0 : Int) ≤ 10 ^ 43 by decide)
        omega
      · rw [partSum_none fun p hp z => q (by rw [← z]; exact List.mem_map_of_mem (f := (·.1)) hp)]
        simp
        omega
    rw [e, rowF_sum_add, rowF_sum_mul, List.length_cons]
    have e2 : ((r.length + 1 : Nat) : Int) * (10 ^ 43 * S) = r.length * (10 ^ 43 * S) + 10 ^ 43 * S := by
      rw [Int.natCast_add, Int.add_mul]
      simp
    rw [e2]
    omega
theorem take_le_sum {l : List Int} (h : ∀ x ∈ l, 0 ≤ x) (k : Nat) : (l.take k).sum ≤ l.sum := by
  have e : l.sum = (l.take k).sum + (l.drop k).sum := by rw [← List.sum_append, List.take_append_drop]
  have := sum_nn fun x hx => h x (List.mem_of_mem_drop (i := k) (l := l) hx)
  omega
/-- no more lots than are needed in all, and the floor -/
theorem lots_sum {a b : List Int} {g f : Int} (ha : ∀ x ∈ a, 0 ≤ x) (hb : ∀ x ∈ b, 0 ≤ x) (hg : 1 ≤ g) (hf : 0 ≤ f) : (leastLots a b g f).sum ≤ b.sum + f := by
  have h := llGo_sum g f 0 ((soFar 0 a).zip (soFar 0 b))
  have hM : 0 ≤ b.sum + f := by have := sum_nn hb; omega
  have h2 := llAt_le (g := g) (f := f) (M := b.sum + f) 0 ((soFar 0 a).zip (soFar 0 b)) hM fun p hp => by
    obtain ⟨i, hi⟩ := List.getElem?_of_mem hp
    obtain ⟨h1, h2⟩ := List.getElem?_zip_eq_some.mp hi
    have hia : i < a.length := by
      have := lt_of_get h1
      rw [soFar_len] at this
      exact this
    have hib : i < b.length := by
      have := lt_of_get h2
      rw [soFar_len] at this
      exact this
    have e1 := soFar_get 0 a i _ (List.getElem?_eq_getElem hia)
    have e2 := soFar_get 0 b i _ (List.getElem?_eq_getElem hib)
    rw [e1] at h1
    rw [e2] at h2
    have h1' := Option.some.inj h1
    have h2' := Option.some.inj h2
    have s1 := sum_nn fun x hx => ha x (List.mem_of_mem_take (i := i + 1) (l := a) hx)
    have s2 := take_le_sum hb (i + 1)
    exact div_low (by omega) (by omega) hM
  unfold leastLots
  omega
theorem hadF_nn {w : Ware} (h : WareG w) (n : Nat) : ∀ x ∈ rowF n (hadF w), 0 ≤ x := fun x hx => by
  obtain ⟨d, _, rfl⟩ := List.mem_map.mp hx
  unfold hadF comesOn
  have h1 := sum_nn (l := (w.com.filter fun p => decide (p.1 = (d : Int))).map fun p => p.2) fun x hx => by
    obtain ⟨p, hp, rfl⟩ := List.mem_map.mp hx
    exact (h.com p (List.mem_filter.mp hp).1).2.1
  have := h.stock.1
  split <;> omega
theorem needF_nn {s : Shop} {pl : List (Str × List Int)} {nm : Str} {n : Nat} (hw : ∀ v ∈ s.wants, 0 ≤ v.2.2) (hg : ∀ v ∈ s.ws, WareG v) (h : ∀ v ∈ s.ws, nm ∈ v.parts.map (·.1) → ∃ row, getS pl v.nm = some row ∧ ∀ x ∈ row, 0 ≤ x) : ∀ x ∈ rowF n (needF s pl nm), 0 ≤ x := fun x hx => by
  obtain ⟨d, _, rfl⟩ := List.mem_map.mp hx
  unfold needF wantOn takeOn
  have h1 := sum_nn (l := (s.wants.filter fun w => decide (w.1 = nm ∧ w.2.1 = (d : Int))).map fun w => w.2.2) fun x hx => by
    obtain ⟨p, hp, rfl⟩ := List.mem_map.mp hx
    exact hw p (List.mem_filter.mp hp).1
  have h2 := sum_nn (l := s.ws.map fun v => takeParts pl v v.parts nm d) fun x hx => by
    obtain ⟨v, hv, rfl⟩ := List.mem_map.mp hx
    rw [takeParts_eq]
    by_cases q : nm ∈ v.parts.map (·.1)
    · obtain ⟨row, h1, h2⟩ := h v hv q
      refine Int.mul_nonneg (partSum_le (hg v hv) nm).1 ?_
      unfold begunOn
      rw [h1]
      show 0 ≤ (begunRow v.lag row).getD d 0
      rw [List.getD_eq_getElem?_getD]
      cases e : (begunRow v.lag row)[d]? with
      | none => exact Int.le_refl 0
      | some y =>
        rcases begunRow_mem (List.mem_of_getElem? e) with z | z
        · exact h2 y z
        · rw [z]
          exact Int.le_refl 0
    · rw [partSum_none fun p hp z => q (by rw [← z]; exact List.mem_map_of_mem (f := (·.1)) hp)]
      simp
  omega
def q0 : Int := 2 ^ 1010
theorem q0_pos : 0 < q0 := Int.pow_pos (by decide)
abbrev bigQ (i : Nat) : Int := q0 * (10 ^ 46) ^ i
theorem bigQ_succ (i : Nat) : bigQ (i + 1) = bigQ i * 10 ^ 46 := by
  show q0 * (10 ^ 46) ^ (i + 1) = q0 * (10 ^ 46) ^ i * 10 ^ 46
  rw [Int.pow_succ, Int.mul_assoc]
theorem bigQ_ge (i : Nat) : q0 ≤ bigQ i := by
  induction i with
  | zero =>
    show q0 ≤ q0 * (10 ^ 46) ^ 0
    rw [Int.pow_zero, Int.mul_one]
    exact Int.le_refl _
  | succ i ih =>
    rw [bigQ_succ]
    have := q0_pos
    omega
theorem bigQ_mono {i j : Nat} (h : i ≤ j) : bigQ i ≤ bigQ j := by
  induction h with
  | refl => exact Int.le_refl _
  | step _ ih =>
    rename_i m _
    have := bigQ_ge m
    have := q0_pos
    rw [bigQ_succ]
    omega
theorem bigQ_log {x : Int} (h0 : 0 ≤ x) (h : x ≤ bigQ 12) : x.natAbs.log2 < 4000 := by
  by_cases hx : x = 0
  · subst hx
    decide
  · rw [Nat.log2_lt (by omega)]
    have h2 : bigQ 12 < 2 ^ 4000 := by unfold bigQ q0; decide
    have h4 : ((2 ^ 4000 : Nat) : Int) = (2 : Int) ^ 4000 := by rw [Int.natCast_pow]; rfl
    omega
theorem PlanIn.n {s : Shop} {n : Nat} (h : PlanIn s n) : n ≤ 901 := by
  rcases h.dn.is with e | ⟨v, hv, e⟩
  · omega
  · have := (h.w v hv).1
    omega
theorem plan_sum {s : Shop} {n : Nat} (h : PlanIn s n) : ∀ (i : Nat) (x : Str), (workedOf s)[i]? = some x → (rowOf s n x).sum ≤ bigQ (i + 1) := fun i => by
  induction i using Nat.strongRecOn with
  | ind i ih =>
    intro x hx
    obtain ⟨w, hw, rfl⟩ := ware_named (workedOf_mem.mp (List.mem_of_getElem? hx))
    have hwg := h.ws w hw
    have hq := bigQ_ge i
    have hq0 := q0_pos
    have users : ∀ v ∈ s.ws, w.nm ∈ v.parts.map (·.1) → ∃ row, getS (leastPlan s n) v.nm = some row ∧ row.length = n ∧ (∀ x ∈ row, 0 ≤ x) ∧ row.sum ≤ bigQ i := fun v hv hm => by
      obtain ⟨p, hp, e⟩ := List.mem_map.mp hm
      have hvn : v.nm ∈ s.names := List.mem_map_of_mem (f := fun w : Ware => w.nm) hv
      obtain ⟨k, hk⟩ := List.getElem?_of_mem (workedOf_mem.mpr hvn)
      obtain ⟨j, hj, hj2⟩ := parts_behind h.a hv hk hp
      rw [e] at hj2
      have hji := (List.getElem?_inj (lt_of_get hj2) (workedOf_nodup h.a.ok.nd)).mp (hj2.trans hx.symm)
      subst hji
      exact ⟨_, plan_get h.a.ok.nd hvn, rowOf_len h.a hv, rowOf_nn h.a hv, Int.le_trans (ih k hj _ hk) (bigQ_mono hj)⟩
    have hneed : ∀ z ∈ rowF n (needF s (leastPlan s n) w.nm), 0 ≤ z := needF_nn (fun v hv => (h.w v hv).2.1) h.ws fun v hv hm => by
      obtain ⟨row, h1, _, h3, _⟩ := users v hv hm
      exact ⟨row, h1, h3⟩
    have hl := lots_sum (hadF_nn hwg n) hneed hwg.gives.1 hwg.floor.1
    have hsw := wants_sum (c := 2 ^ 1000) w.nm n s.wants fun v hv => ⟨(h.w v hv).1.1, (h.w v hv).2.1, Int.le_of_lt (h.w v hv).2.2⟩
    have hst := takes_sum (s := s) (nm := w.nm) (n := n) (S := bigQ i) (by omega) s.ws h.ws users
    have e : rowF n (needF s (leastPlan s n) w.nm) = rowF n fun d => wantOn s.wants w.nm d + takeOn (leastPlan s n) s.ws w.nm d := rfl
    rw [rowOf_eq h.a hw]
    rw [e, rowF_sum_add] at hl
    have hfl := hwg.floor.2
    have l1 : (s.wants.length : Int) * 2 ^ 1000 ≤ 30 * 2 ^ 1000 := Int.mul_le_mul_of_nonneg_right (by have := h.wl; omega) (Int.le_of_lt (Int.pow_pos (by decide)))
    have l2 : (s.ws.length : Int) * (10 ^ 43 * bigQ i) ≤ 12 * (10 ^ 43 * bigQ i) := Int.mul_le_mul_of_nonneg_right (by have := h.hi; omega) (by omega)
    have l3 : (30 : Int) * 2 ^ 1000 ≤ q0 := by unfold q0; decide
    have l4 : (10 : Int) ^ 42 ≤ q0 := by unfold q0; decide
    have e2 : rowF n (needF s (leastPlan s n) w.nm) = rowF n fun d => wantOn s.wants w.nm d + takeOn (leastPlan s n) s.ws w.nm d := rfl
    rw [bigQ_succ, e2]
    omega
theorem plan_log {s : Shop} {n : Nat} (h : PlanIn s n) {w : Ware} (hw : w ∈ s.ws) : ∀ x ∈ rowOf s n w.nm, x.natAbs.log2 < 4000 := fun x hx => by
  have hvn : w.nm ∈ s.names := List.mem_map_of_mem (f := fun w : Ware => w.nm) hw
  obtain ⟨i, hi⟩ := List.getElem?_of_mem (workedOf_mem.mpr hvn)
  have hlt := lt_of_get hi
  rw [worked_len] at hlt
  have h12 := h.hi
  have h1 := plan_sum h i _ hi
  have h2 := mem_le_sum (rowOf_nn h.a hw) x hx
  exact bigQ_log (rowOf_nn h.a hw x hx) (by have := bigQ_mono (show i + 1 ≤ 12 by omega); omega)
/-- lots come ahead of the lag -/
def Early (s : Shop) (n : Nat) (w : Ware) (day : Nat) (lots : Int) : Prop := (rowOf s n w.nm)[day]? = some lots ∧ 0 < lots ∧ (day : Int) < w.lag
/-- what planned tells -/
inductive PlanTold (s : Shop) (n : Nat) : D → Prop
  | plan : (∀ w ∈ s.ws, ∀ d x, ¬ Early s n w d x) → PlanTold s n (.tup [.str "plan", .dct (sdD intsD (leastPlan s n))])
  | short {i : Nat} {w : Ware} {day : Nat} {lots : Int} : (workedOf s)[i]? = some w.nm → w ∈ s.ws → (∀ v ∈ s.ws, v.nm ∈ (workedOf s).take i → ∀ d x, ¬ Early s n v d x) → Early s n w day lots → (∀ e, e < day → ∀ x, ¬ Early s n w e x) →
      PlanTold s n (.tup [.str "short", .dct (sdD intsD (planTo s n i)), .str w.nm, .int day, .int lots])
end N

--@uses planned
namespace N
open PySem L2 VL
/-! ### the plan hangs on what is wanted by days alone, and not on the order of the wares -/
theorem early_dec (s : Shop) (n : Nat) (w : Ware) (d : Nat) (x y : Int) (h : Early s n w d x) (g : Early s n w d y) : x = y := by
  have := h.1.symm.trans g.1
  exact Option.some.inj this
/-- what is told is but one thing -/
theorem told_uniq {s : Shop} (hA : ShopA s) {n : Nat} {d e : D} (h : PlanTold s n d) (g : PlanTold s n e) : d = e := by
  cases h with
  | plan h =>
    cases g with
    | plan _ => rfl
    | short _ hw _ he _ => exact absurd he (h _ hw _ _)
  | @short i w day lots hi hw hb he hd =>
    cases g with
    | plan g => exact absurd he (g _ hw _ _)
    | @short j v day' lots' gi gw gb ge gd =>
      have hij : i = j := by
        rcases Nat.lt_trichotomy i j with q | q | q
        · refine absurd he (gb w hw ?_ day lots)
          exact List.mem_of_getElem? (i := i) (by rw [List.getElem?_take, if_pos q]; exact hi)
        · exact q
        · refine absurd ge (hb v gw ?_ day' lots')
          exact List.mem_of_getElem? (i := j) (by rw [List.getElem?_take, if_pos q]; exact gi)
      subst hij
      have hwv : w = v := ware_uniq hA.ok.nd hw gw (by rw [hi] at gi; exact Option.some.inj gi)
      subst hwv
      have hdd : day = day' := by
        rcases Nat.lt_trichotomy day day' with q | q | q
        · exact absurd he (gd day q lots)
        · exact q
        · exact absurd ge (hd day' q lots')
      subst hdd
      rw [early_dec s n w day _ _ he ge]
/-- the same wants by days -/
structure WantsLike (us vs : List Want) : Prop where
  on : ∀ nm d, wantOn us nm d = wantOn vs nm d
  all : ∀ nm, wantAll us nm = wantAll vs nm
section
variable {ws : List Ware} {us vs : List Want}
theorem like_names : (Shop.mk ws us).names = (Shop.mk ws vs).names := rfl
theorem like_worked : workedOf ⟨ws, us⟩ = workedOf ⟨ws, vs⟩ := rfl
theorem like_need (h : WantsLike us vs) (pl : List (Str × List Int)) (nm : Str) (d : Nat) : needF ⟨ws, us⟩ pl nm d = needF ⟨ws, vs⟩ pl nm d := by
  unfold needF
  rw [h.on]
theorem like_row (h : WantsLike us vs) (n : Nat) (pl : List (Str × List Int)) (x : Str) : rowAt ⟨ws, us⟩ n pl x = rowAt ⟨ws, vs⟩ n pl x := by
  unfold rowAt
  dsimp only
  cases ws.find? fun v => decide (v.nm = x) with
  | none => rfl
  | some w =>
    dsimp only
    rw [rowF_congr fun d _ => like_need h pl w.nm d]
theorem like_planTo (h : WantsLike us vs) (n : Nat) : ∀ i, planTo ⟨ws, us⟩ n i = planTo ⟨ws, vs⟩ n i
  | 0 => rfl
  | i + 1 => by
    show (match (workedOf ⟨ws, us⟩)[i]? with | some x => planTo ⟨ws, us⟩ n i ++ [(x, rowAt ⟨ws, us⟩ n (planTo ⟨ws, us⟩ n i) x)] | none => planTo ⟨ws, us⟩ n i) = (match (workedOf ⟨ws, vs⟩)[i]? with | some x => planTo ⟨ws, vs⟩ n i ++ [(x, rowAt ⟨ws, vs⟩ n (planTo ⟨ws, vs⟩ n i) x)] | none => planTo ⟨ws, vs⟩ n i)
    rw [like_planTo h n i, like_worked (us := us) (vs := vs)]
    cases (workedOf ⟨ws, vs⟩)[i]? with
    | none => rfl
    | some x =>
      dsimp only
      rw [like_row h]
theorem like_rowOf (h : WantsLike us vs) (n : Nat) (x : Str) : rowOf ⟨ws, us⟩ n x = rowOf ⟨ws, vs⟩ n x := by
  unfold rowOf leastPlan
  rw [like_planTo h, like_worked (us := us) (vs := vs)]
theorem like_early (h : WantsLike us vs) {n : Nat} {w : Ware} {d : Nat} {x : Int} (g : Early ⟨ws, us⟩ n w d x) : Early ⟨ws, vs⟩ n w d x := by
  unfold Early at g ⊢
  rw [like_rowOf h] at g
  exact g
theorem WantsLike.symm (h : WantsLike us vs) : WantsLike vs us := ⟨fun a b => (h.on a b).symm, fun a => (h.all a).symm⟩
theorem like_told (h : WantsLike us vs) {n : Nat} {d : D} (g : PlanTold ⟨ws, us⟩ n d) : PlanTold ⟨ws, vs⟩ n d := by
  cases g with
  | plan g =>
    have e : leastPlan ⟨ws, us⟩ n = leastPlan ⟨ws, vs⟩ n := like_planTo h n _
    rw [e]
    exact .plan fun w hw d x q => g w hw d x (like_early h.symm q)
  | @short i w day lots hi hw hb he hd =>
    rw [like_planTo h]
    exact .short hi hw (fun v hv hvt d x q => hb v hv hvt d x (like_early h.symm q)) (like_early h he) fun e he2 x q => hd e he2 x (like_early h.symm q)
theorem like_expl (h : WantsLike us vs) {l : List Str} {f : Str → Int} (g : ExplTo ⟨ws, us⟩ l f) : ExplTo ⟨ws, vs⟩ l f := fun w hw hl => by
  have := g w hw hl
  unfold fromNo at this ⊢
  rw [h.all] at this
  exact this
end
/-! the order of the wares -/
theorem sum_map_perm {α : Type} {l m : List α} (h : l.Perm m) (f : α → Int) : (l.map f).sum = (m.map f).sum := sum_perm (h.map f)
section
variable {ws ws' : List Ware} {vs : List Want}
theorem turn_names (h : ws'.Perm ws) : (Shop.mk ws' vs).names.Perm (Shop.mk ws vs).names := h.map _
theorem turn_need (h : ws'.Perm ws) (pl : List (Str × List Int)) (nm : Str) (d : Nat) : needF ⟨ws', vs⟩ pl nm d = needF ⟨ws, vs⟩ pl nm d := by
  unfold needF takeOn
  dsimp only
  rw [sum_map_perm h]
theorem turn_ok (h : ws'.Perm ws) (g : ShopG ⟨ws, vs⟩) : ShopG ⟨ws', vs⟩ := by
  have hn := turn_names (vs := vs) h
  refine ⟨?_, ?_, hn.nodup_iff.mpr g.nd, fun w hw => g.ws w (h.mem_iff.mp hw), fun w hw p hp => hn.mem_iff.mpr (g.sub w (h.mem_iff.mp hw) p hp), g.wants.len, fun v hv => ?_⟩
  · show 1 ≤ ws'.length
    rw [h.length_eq]
    exact g.lo
  · show ws'.length ≤ 12
    rw [h.length_eq]
    exact g.hi
  · obtain ⟨h1, h2⟩ := g.wants.ok v hv
    exact ⟨hn.mem_iff.mpr h1, h2⟩
theorem turn_ac (h : ws'.Perm ws) (g : Acyclic (partsOf ⟨ws, vs⟩)) : Acyclic (partsOf ⟨ws', vs⟩) := by
  obtain ⟨rank, hr⟩ := g
  exact ⟨rank, fun x ps hm => hr x ps ((h.map _).mem_iff.mp hm)⟩
/-- two ways to have least rows agree -/
theorem rows_uniq {s : Shop} (hA : ShopA s) {n : Nat} {r q : Str → List Int} {l m : List Str} (hl : ∀ x ∈ s.names, x ∈ l) (hm : ∀ x ∈ s.names, x ∈ m)
    (hr : ∀ w ∈ s.ws, r w.nm = leastLots (rowF n (hadF w)) (rowF n (needF s (fnS l r) w.nm)) w.gives w.floor) (hq : ∀ w ∈ s.ws, q w.nm = leastLots (rowF n (hadF w)) (rowF n (needF s (fnS m q) w.nm)) w.gives w.floor) : ∀ x ∈ s.names, r x = q x := by
  have key : ∀ (i : Nat) (x : Str), (workedOf s)[i]? = some x → r x = q x := fun i => by
    induction i using Nat.strongRecOn with
    | ind i ih =>
      intro x hx
      obtain ⟨w, hw, rfl⟩ := ware_named (workedOf_mem.mp (List.mem_of_getElem? hx))
      rw [hr w hw, hq w hw]
      congr 1
      refine rowF_congr fun d _ => needF_congr (fun v hv hmn => ?_) d
      obtain ⟨p, hp, e⟩ := List.mem_map.mp hmn
      have hvn : v.nm ∈ s.names := List.mem_map_of_mem (f := fun w : Ware => w.nm) hv
      obtain ⟨k, hk⟩ := List.getElem?_of_mem (workedOf_mem.mpr hvn)
      obtain ⟨j, hj, hj2⟩ := parts_behind hA hv hk hp
      rw [e] at hj2
      have hji := (List.getElem?_inj (lt_of_get hj2) (workedOf_nodup hA.ok.nd)).mp (hj2.trans hx.symm)
      subst hji
      rw [getS_fn (hl _ hvn), getS_fn (hm _ hvn), ih k hj _ hk]
  intro x hx
  obtain ⟨i, hi⟩ := List.getElem?_of_mem (workedOf_mem.mpr hx)
  exact key i x hi
theorem turn_rowOf (h : ws'.Perm ws) (hA : ShopA ⟨ws, vs⟩) (hA' : ShopA ⟨ws', vs⟩) (n : Nat) : ∀ x ∈ (Shop.mk ws vs).names, rowOf ⟨ws', vs⟩ n x = rowOf ⟨ws, vs⟩ n x := by
  have hn := turn_names (vs := vs) h
  refine rows_uniq hA (n := n) (r := rowOf ⟨ws', vs⟩ n) (q := rowOf ⟨ws, vs⟩ n) (l := workedOf ⟨ws', vs⟩) (m := workedOf ⟨ws, vs⟩) (fun x hx => workedOf_mem.mpr (hn.mem_iff.mpr hx)) (fun x hx => workedOf_mem.mpr hx) (fun w hw => ?_) fun w hw => ?_
  · rw [rowOf_eq hA' (h.mem_iff.mpr hw), plan_fn hA'.ok.nd, rowF_congr fun d _ => turn_need h _ _ d]
  · have := rowOf_eq hA (n := n) hw
    rw [plan_fn hA.ok.nd] at this
    exact this
theorem turn_expl (h : ws'.Perm ws) (nd : (Shop.mk ws vs).names.Nodup) {f : Str → Int} (g : ExplTo ⟨ws', vs⟩ (Shop.mk ws' vs).names f) : ExplTo ⟨ws, vs⟩ (Shop.mk ws vs).names f := fun w hw hl => by
  have hn := turn_names (vs := vs) h
  have := g w (h.mem_iff.mpr hw) (hn.mem_iff.mpr hl)
  unfold fromNo at this ⊢
  rw [takes_ws (hn.nodup_iff.mpr nd)] at this
  rw [takes_ws nd, ← sum_map_perm h]
  exact this
theorem turn_days (n : Nat) (h : DaysOf ⟨ws, vs⟩ n) : DaysOf ⟨ws', vs⟩ n := ⟨h.one, h.up, h.is⟩
end
theorem ShopG.plan {s : Shop} (h : ShopG s) (ac : Acyclic (partsOf s)) {n : Nat} (hn : DaysOf s n) : PlanIn s n := ⟨h.a ac, h.ws, h.hi, hn, by have := h.wants.len; omega, fun v hv => by
  have := (h.wants.ok v hv).2
  have l1 : (10 : Int) ^ 42 ≤ 2 ^ 1000 := by decide
  exact ⟨by omega, this.2.1, Int.lt_of_lt_of_le this.2.2 l1⟩⟩
theorem days_ex (s : Shop) (h : ∀ v ∈ s.wants, 0 ≤ v.2.1) : ∃ n : Nat, DaysOf s n := by
  have key : ∀ vs : List Want, (∀ v ∈ vs, 0 ≤ v.2.1) → ∃ n : Nat, 1 ≤ n ∧ (∀ v ∈ vs, v.2.1 + 1 ≤ n) ∧ (n = 1 ∨ ∃ v ∈ vs, (n : Int) = v.2.1 + 1) := fun vs => by
    induction vs with
    | nil => intro _; exact ⟨1, Nat.le_refl _, fun v hv => (by cases hv), .inl rfl⟩
    | cons v r ih =>
      intro h
      obtain ⟨n, h1, h2, h3⟩ := ih fun u hu => h u (List.mem_cons_of_mem _ hu)
      have hv := h v List.mem_cons_self
      by_cases q : (n : Int) ≤ v.2.1 + 1
      · refine ⟨(v.2.1 + 1).toNat, by omega, fun u hu => ?_, .inr ⟨v, List.mem_cons_self, by omega⟩⟩
        rcases List.mem_cons.mp hu with rfl | hu
        · omega
        · have := h2 u hu
          omega
      · refine ⟨n, h1, fun u hu => ?_, ?_⟩
        · rcases List.mem_cons.mp hu with rfl | hu
          · omega
          · exact h2 u hu
        · rcases h3 with h3 | ⟨u, hu, e⟩
          · exact .inl h3
          · exact .inr ⟨u, List.mem_cons_of_mem _ hu, e⟩
  obtain ⟨n, h1, h2, h3⟩ := key s.wants h
  refine ⟨n, by omega, h2, ?_⟩
  rcases h3 with h3 | h3
  · exact .inl (by omega)
  · exact .inr h3
/-- wants that are like the others, drawn from them -/
structure SplitOk (us vs : List Want) : Prop where
  like : WantsLike us vs
  days : (∀ v ∈ us, ∃ u ∈ vs, v.2.1 ≤ u.2.1) ∧ ∀ v ∈ vs, ∃ u ∈ us, u.2.1 = v.2.1
theorem SplitOk.dn {ws : List Ware} {us vs : List Want} (h : SplitOk us vs) {n : Nat} (g : DaysOf ⟨ws, vs⟩ n) : DaysOf ⟨ws, us⟩ n := by
  refine ⟨g.one, fun v hv => ?_, ?_⟩
  · obtain ⟨u, hu, e⟩ := h.days.1 v hv
    have : u.2.1 + 1 ≤ n := g.up u hu
    omega
  · rcases g.is with e | ⟨v, hv, e⟩
    · exact .inl e
    · obtain ⟨u, hu, e2⟩ := h.days.2 v hv
      exact .inr ⟨u, hu, by rw [e2]; exact e⟩
end N

--@uses plan so_far
namespace N
open PySem L2 VL
/-- what is left of a ware at the end of each day -/
def stockRow (s : Shop) (pl : List (Str × List Int)) (w : Ware) (row : List Int) (n : Nat) : List Int := soFar 0 (rowF n fun d => hadF w d + w.gives * row.getD d 0 - needF s pl w.nm d)
end N

--@uses rows planned least_right same stockrow
namespace N
open PySem L2 VL
theorem filter_ware : ∀ {ws : List Ware} (_ : (ws.map (·.nm)).Nodup) {w : Ware}, w ∈ ws → (ws.filterMap fun v => if v.nm = w.nm then some v else none) = [w]
  | [], _, _, h => by cases h
  | v :: r, nd, w, h => by
    rw [List.map_cons, List.nodup_cons] at nd
    by_cases e : v.nm = w.nm
    · have hr : ∀ u ∈ r, u.nm ≠ w.nm := fun u hu z => nd.1 (by rw [e, ← z]; exact List.mem_map_of_mem (f := fun w : Ware => w.nm) hu)
      have hvw : v = w := by
        rcases List.mem_cons.mp h with h | h
        · exact h.symm
        · exact absurd rfl (hr w h)
      rw [List.filterMap_cons, if_pos e]
      have : (r.filterMap fun v => if v.nm = w.nm then some v else none) = [] := by
        rw [List.filterMap_eq_nil_iff]
        intro u hu
        rw [if_neg (hr u hu)]
      rw [this, hvw]
    · rw [List.filterMap_cons, if_neg e]
      rcases List.mem_cons.mp h with h | h
      · exact absurd (congrArg Ware.nm h.symm) e
      · exact filter_ware nd.2 h
theorem days_max {s : Shop} {n : Nat} (hn : DaysOf s n) (hd : ∀ v ∈ s.wants, 0 ≤ v.2.1) {m : Int} (hm : m ∈ (0 : Int) :: s.wants.map fun v => v.2.1) (hle : ∀ y ∈ (0 : Int) :: s.wants.map fun v => v.2.1, y ≤ m) : 1 + m = n := by
  have h0 := hle 0 List.mem_cons_self
  rcases hn.is with e | ⟨v, hv, e⟩
  · rcases List.mem_cons.mp hm with rfl | hm
    · omega
    · obtain ⟨u, hu, rfl⟩ := List.mem_map.mp hm
      have := hn.up u hu
      omega
  · have h1 := hle v.2.1 (List.mem_cons_of_mem _ (List.mem_map_of_mem (f := fun v : Want => v.2.1) hv))
    rcases List.mem_cons.mp hm with rfl | hm
    · have := hd v hv
      omega
    · obtain ⟨u, hu, rfl⟩ := List.mem_map.mp hm
      have := hn.up u hu
      omega
theorem begun_get {lag : Int} (h0 : 0 ≤ lag) {row : List Int} {d : Nat} (hd : d < row.length) : (begunRow lag row)[d]? = some (if d + lag.toNat < row.length then row.getD (d + lag.toNat) 0 else 0) := by
  unfold begunRow
  by_cases h : d + lag.toNat < row.length
  · rw [if_pos h, List.getElem?_append_left (by rw [List.length_drop]; omega), List.getElem?_drop]
    rw [show lag.toNat + d = d + lag.toNat by omega, List.getElem?_eq_getElem h, List.getD_eq_getElem?_getD, List.getElem?_eq_getElem h]
    rfl
  · rw [if_neg h, List.getElem?_append_right (by rw [List.length_drop]; omega), List.getElem?_replicate, List.length_drop, if_pos (by omega)]
/-- a shop of drawn wares, and a plan of rows for it -/
structure PlanOk (s : Shop) (pl : List (Str × List Int)) (n : Nat) : Prop where
  g : ShopG s
  ac : Acyclic (partsOf s)
  dn : DaysOf s n
  hi : n ≤ 900
  pl : ∀ w ∈ s.ws, ∃ row, getS pl w.nm = some row ∧ row.length = n ∧ ∀ x ∈ row, 0 ≤ x ∧ x.natAbs.log2 < 4000
theorem amt_log {x k : Int} (h : 0 ≤ x ∧ x < 10 ^ 100) : x.natAbs.log2 < 4000 := by
  by_cases q : x = 0
  · rw [q]
    decide
  · rw [Nat.log2_lt (by omega)]
    have h3 : x.natAbs < 10 ^ 100 := by omega
    exact Nat.lt_of_lt_of_le h3 (by decide)
theorem comes_fm (d : Nat) : ∀ com : List (Int × Int), (com.filterMap fun p => if p.1 = (d : Int) then some p.2 else none).sum = comesOn com d
  | [] => rfl
  | p :: r => by
    have ih := comes_fm d r
    unfold comesOn at ih ⊢
    by_cases e : p.1 = (d : Int)
    · rw [List.filterMap_cons, if_pos e, List.filter_cons_of_pos (by simpa using e), List.map_cons, List.sum_cons, List.sum_cons, ih]
    · rw [List.filterMap_cons, if_neg e, List.filter_cons_of_neg (by simpa using e), ih]
theorem rowF_succ_sum (n : Nat) (f : Nat → Int) : (rowF (n + 1) f).sum = (rowF n f).sum + f n := by
  unfold rowF
  rw [List.range_succ, List.map_append, List.sum_append]
  simp
theorem rowF_take {n i : Nat} {f : Nat → Int} (h : i ≤ n) : (rowF n f).take i = rowF i f := by
  unfold rowF
  rw [← List.map_take, List.take_range, Nat.min_eq_left h]
/-- what a lot takes of a name, told as a list of one or none -/
theorem amounts_of {nm : Str} : ∀ {ps : List (Str × Int)} (_ : (ps.map (·.1)).Nodup), (∃ a, (ps.filterMap fun p => if p.1 = nm then some p.2 else none) = [a] ∧ partSum ps nm = a ∧ ∃ p ∈ ps, p.1 = nm ∧ p.2 = a) ∨ ((ps.filterMap fun p => if p.1 = nm then some p.2 else none) = [] ∧ partSum ps nm = 0)
  | [], _ => .inr ⟨rfl, rfl⟩
  | p :: r, nd => by
    rw [List.map_cons, List.nodup_cons] at nd
    by_cases e : p.1 = nm
    · have hr : ∀ u ∈ r, u.1 ≠ nm := fun u hu z => nd.1 (by rw [e, ← z]; exact List.mem_map_of_mem (f := fun w : Str × Int => w.1) hu)
      refine .inl ⟨p.2, ?_, ?_, p, List.mem_cons_self, e, rfl⟩
      · rw [List.filterMap_cons, if_pos e]
        have : (r.filterMap fun p => if p.1 = nm then some p.2 else none) = [] := by
          rw [List.filterMap_eq_nil_iff]
          intro u hu
          rw [if_neg (hr u hu)]
        rw [this]
      · have h0 := partSum_none (nm := nm) hr
        unfold partSum at h0 ⊢
        rw [List.filter_cons_of_pos (by simpa using e), List.map_cons, List.sum_cons, h0]
        omega
    · rw [List.filterMap_cons, if_neg e]
      have e2 : partSum (p :: r) nm = partSum r nm := by
        unfold partSum
        rw [List.filter_cons_of_neg (by simpa using e)]
      rw [e2]
      rcases amounts_of nd.2 with ⟨a, h1, h2, q, hq, h3⟩ | h
      · exact .inl ⟨a, h1, h2, q, List.mem_cons_of_mem _ hq, h3⟩
      · exact .inr h
/-- rows of small lots for the wares, in their order -/
structure DrawnPlan (ws : List Ware) (pl : List (Str × List Int)) (n : Nat) (top : Int) : Prop where
  keys : pl.map (·.1) = ws.map (·.nm)
  rows : ∀ p ∈ pl, p.2.length = n ∧ ∀ x ∈ p.2, 0 ≤ x ∧ x ≤ 2 + top
theorem DrawnPlan.row {ws : List Ware} {pl : List (Str × List Int)} {n : Nat} {top : Int} (h : DrawnPlan ws pl n top) (nd : (ws.map (·.nm)).Nodup) {w : Ware} (hw : w ∈ ws) : ∃ row, getS pl w.nm = some row ∧ row.length = n ∧ ∀ x ∈ row, 0 ≤ x ∧ x ≤ 2 + top := by
  have hm : w.nm ∈ pl.map (·.1) := by rw [h.keys]; exact List.mem_map_of_mem (f := fun w : Ware => w.nm) hw
  obtain ⟨⟨k, row⟩, hp, e⟩ := List.mem_map.mp hm
  dsimp only at e
  subst e
  exact ⟨row, getS_of (by rw [h.keys]; exact nd) hp, h.rows _ hp⟩
theorem DrawnPlan.ok {s : Shop} {pl : List (Str × List Int)} {n : Nat} {top : Int} (h : DrawnPlan s.ws pl n top) (g : ShopG s) (ac : Acyclic (partsOf s)) (hn : DaysOf s n) (h9 : n ≤ 900) (ht : top ≤ 10 ^ 9) : PlanOk s pl n := ⟨g, ac, hn, h9, fun w hw => by
  obtain ⟨row, h1, h2, h3⟩ := h.row g.nd hw
  exact ⟨row, h1, h2, fun x hx => ⟨(h3 x hx).1, amt_log (k := 0) ⟨(h3 x hx).1, by have := (h3 x hx).2; omega⟩⟩⟩⟩
theorem PlanOk.row {s : Shop} {pl : List (Str × List Int)} {n : Nat} (h : PlanOk s pl n) {w : Ware} (hw : w ∈ s.ws) : ∃ row, getS pl w.nm = some row ∧ row.length = n ∧ ∀ x ∈ row, 0 ≤ x ∧ x.natAbs.log2 < 4000 := h.pl w hw
theorem noD_shop2 (s : Shop) : D.noD 9 (shopD s) = true := by
  have h1 : ∀ w : Ware, D.noD 7 (wareD w) = true := fun w => by
    have e1 : D.noD 6 (.tup (w.com.map pairD)) = true := noD_map (n := 5) (fun _ => rfl) w.com
    have e2 : D.noD 6 (.tup (w.parts.map partD)) = true := noD_map (n := 5) (fun _ => rfl) w.parts
    show ([D.str w.nm, .int w.lag, .int w.gives, .int w.floor, .int w.stock, .tup (w.com.map pairD), .tup (w.parts.map partD)].all (D.noD 6)) = true
    simp only [List.all_cons, List.all_nil, e1, e2, Bool.and_true]
    rfl
  show ([D.tup (s.ws.map wareD), .tup (s.wants.map wantD)].all (D.noD 8)) = true
  have e1 : D.noD 8 (.tup (s.ws.map wareD)) = true := noD_map (n := 7) h1 s.ws
  have e2 : D.noD 8 (.tup (s.wants.map wantD)) = true := noD_map (n := 7) (fun _ => rfl) s.wants
  simp only [List.all_cons, List.all_nil, e1, e2, Bool.and_true]
theorem noD_rows (pl : List (Str × List Int)) : ((sdD intsD pl).all fun p => D.noD 9 p.2) = true := List.all_eq_true.mpr fun p hp => by
  obtain ⟨q, _, rfl⟩ := List.mem_map.mp hp
  exact noD_ints 7 q.2
theorem itemsD_get {pl : List (Str × List Int)} {i : Nat} {d : D} (h : (itemsD (sdD intsD pl))[i]? = some d) : ∃ z r, pl[i]? = some (z, r) ∧ d = .tup [.str z, .lst (r.map D.int)] := by
  unfold itemsD sdD at h
  rw [List.getElem?_map, List.getElem?_map] at h
  cases e : pl[i]? with
  | none => rw [e] at h; cases h
  | some p =>
    rw [e] at h
    cases h
    exact ⟨p.1, p.2, rfl, rfl⟩
theorem itemsD_len (pl : List (Str × List Int)) : (itemsD (sdD intsD pl)).length = pl.length := by
  unfold itemsD sdD
  rw [List.length_map, List.length_map]
/-- who takes of a name -/
def usersOf (s : Shop) (nm : Str) : List Str := s.ws.filterMap fun w => if nm ∈ w.parts.map (·.1) then some w.nm else none
theorem users_get {s : Shop} {nm u : Str} (h : u ∈ usersOf s nm) : ∃ w ∈ s.ws, w.nm = u ∧ nm ∈ w.parts.map (·.1) := by
  obtain ⟨w, hw, e⟩ := List.mem_filterMap.mp h
  split at e
  · cases e
    exact ⟨w, hw, rfl, by assumption⟩
  · cases e
theorem users_low {s : Shop} (ha : Acyclic (partsOf s)) {nm u : Str} (h : u ∈ usersOf s nm) : levF (partsOf s) u + 1 ≤ levF (partsOf s) nm := by
  obtain ⟨w, hw, rfl, hm⟩ := users_get h
  exact (levels_ok ha).up w.nm (w.parts.map (·.1)) (List.mem_map.mpr ⟨w, hw, rfl⟩) nm hm
theorem level_max {s : Shop} (ha : Acyclic (partsOf s)) {nm : Str} {m : Int} (hm : m ∈ (0 : Int) :: (usersOf s nm).map fun u => 1 + levF (partsOf s) u) (hle : ∀ y ∈ (0 : Int) :: (usersOf s nm).map fun u => 1 + levF (partsOf s) u, y ≤ m) : m = levF (partsOf s) nm := by
  have hl := levels_ok ha
  have h0 := hle 0 List.mem_cons_self
  have up : m ≤ levF (partsOf s) nm := by
    rcases List.mem_cons.mp hm with rfl | hm
    · exact (hl.nn nm).1
    · obtain ⟨u, hu, rfl⟩ := List.mem_map.mp hm
      have := users_low ha hu
      omega
  rcases hl.is nm with e | ⟨y, ps, hy, hx, e⟩
  · omega
  · obtain ⟨w, hw, ew⟩ := List.mem_map.mp hy
    cases ew
    have hu : w.nm ∈ usersOf s nm := List.mem_filterMap.mpr ⟨w, hw, if_pos hx⟩
    have := hle _ (List.mem_cons_of_mem _ (List.mem_map_of_mem (f := fun u => 1 + levF (partsOf s) u) hu))
    omega
/-- a name's level and place -/
def rankOf (s : Shop) (x : Str) : Int × Int := (levF (partsOf s) x, (s.names.idxOf x : Nat))
theorem range_names {s : Shop} (nd : s.names.Nodup) : rangeD 0 s.ws.length = s.names.map fun x => D.int (s.names.idxOf x : Nat) := by
  unfold rangeD
  refine List.ext_getElem? fun i => ?_
  rw [List.getElem?_map, List.getElem?_map]
  by_cases h : i < s.names.length
  · rw [List.getElem?_range (by rw [← names_len]; exact h), List.getElem?_eq_getElem h]
    show some (D.int (0 + (i : Nat))) = some (D.int (s.names.idxOf s.names[i] : Nat))
    rw [idx_nodup nd (List.getElem?_eq_getElem h), Int.zero_add]
  · rw [List.getElem?_eq_none (by rw [List.length_range, ← names_len]; omega), List.getElem?_eq_none (by omega)]
    rfl
theorem worked_rank {s : Shop} (nd : s.names.Nodup) : srtP (s.names.map (rankOf s)) = (workedOf s).map (rankOf s) := by
  refine (srtP_uniq ((workedOf_perm s).map _) ?_).symm
  refine List.pairwise_map.mpr (List.pairwise_iff_getElem.mpr fun i j hi hj hij => ?_)
  have := workedOf_lt nd hij (List.getElem?_eq_getElem hi) (List.getElem?_eq_getElem hj)
  unfold leP rankOf
  rw [decide_eq_true_iff]
  rcases this with h | ⟨h1, h2⟩
  · exact .inl h
  · exact .inr ⟨h1, by show ((_ : Nat) : Int) ≤ (_ : Nat); omega⟩
end N

--@uses lawplan
namespace N
open PySem L2 VL
/-! ### plans judged -/
def rowP (pl : List (Str × List Int)) (nm : Str) : List Int := (getS pl nm).getD []
def EarlyAt (pl : List (Str × List Int)) (w : Ware) (d : Nat) : Prop := 0 < (rowP pl w.nm).getD d 0 ∧ (d : Int) < w.lag
def stockP (s : Shop) (pl : List (Str × List Int)) (w : Ware) (n : Nat) : List Int := soFar 0 (rowF n fun d => hadF w d + w.gives * (rowP pl w.nm).getD d 0 - needF s pl w.nm d)
def BelowAt (s : Shop) (pl : List (Str × List Int)) (n : Nat) (w : Ware) (d : Nat) : Prop := (stockP s pl w n).getD d 0 < w.floor
def Flt (s : Shop) (pl : List (Str × List Int)) (n : Nat) (w : Ware) (d : Nat) : Prop := EarlyAt pl w d ∨ BelowAt s pl n w d
inductive Judged (s : Shop) (pl : List (Str × List Int)) (n : Nat) : D → Prop
  | good : (∀ w ∈ s.ws, ∀ d, d < n → ¬ Flt s pl n w d) → Judged s pl n (.tup [.str "good"])
  | early {i : Nat} {w : Ware} {d : Nat} : (workedOf s)[i]? = some w.nm → w ∈ s.ws → (∀ v ∈ s.ws, v.nm ∈ (workedOf s).take i → ∀ e, e < n → ¬ Flt s pl n v e) → d < n → (∀ e, e < d → ¬ Flt s pl n w e) → EarlyAt pl w d → Judged s pl n (.tup [.str "early", .str w.nm, .int d])
  | below {i : Nat} {w : Ware} {d : Nat} : (workedOf s)[i]? = some w.nm → w ∈ s.ws → (∀ v ∈ s.ws, v.nm ∈ (workedOf s).take i → ∀ e, e < n → ¬ Flt s pl n v e) → d < n → (∀ e, e < d → ¬ Flt s pl n w e) → ¬ EarlyAt pl w d → BelowAt s pl n w d → Judged s pl n (.tup [.str "below", .str w.nm, .int d])
theorem stockP_len (s : Shop) (pl : List (Str × List Int)) (w : Ware) (n : Nat) : (stockP s pl w n).length = n := by
  unfold stockP
  rw [soFar_len, rowF_len]
theorem first_uniq {s : Shop} {pl : List (Str × List Int)} {n : Nat} (nd : s.names.Nodup) {i j : Nat} {w v : Ware} {d e : Nat} (hi : (workedOf s)[i]? = some w.nm) (hw : w ∈ s.ws) (hb : ∀ u ∈ s.ws, u.nm ∈ (workedOf s).take i → ∀ e, e < n → ¬ Flt s pl n u e) (hd : d < n) (hf : ∀ e, e < d → ¬ Flt s pl n w e) (ht : Flt s pl n w d)
    (gi : (workedOf s)[j]? = some v.nm) (gw : v ∈ s.ws) (gb : ∀ u ∈ s.ws, u.nm ∈ (workedOf s).take j → ∀ e, e < n → ¬ Flt s pl n u e) (gd : e < n) (gf : ∀ d, d < e → ¬ Flt s pl n v d) (gt : Flt s pl n v e) : w = v ∧ d = e := by
  have hij : i = j := by
    rcases Nat.lt_trichotomy i j with q | q | q
    · exact absurd ht (gb w hw (List.mem_of_getElem? (i := i) (by rw [List.getElem?_take, if_pos q]; exact hi)) d hd)
    · exact q
    · exact absurd gt (hb v gw (List.mem_of_getElem? (i := j) (by rw [List.getElem?_take, if_pos q]; exact gi)) e gd)
  subst hij
  have hwv : w = v := ware_uniq nd hw gw (by rw [hi] at gi; exact Option.some.inj gi)
  subst hwv
  refine ⟨rfl, ?_⟩
  rcases Nat.lt_trichotomy d e with q | q | q
  · exact absurd ht (gf d q)
  · exact q
  · exact absurd gt (hf e q)
theorem judged_uniq {s : Shop} {pl : List (Str × List Int)} {n : Nat} (nd : s.names.Nodup) {x y : D} (h : Judged s pl n x) (g : Judged s pl n y) : x = y := by
  cases h with
  | good h =>
    cases g with
    | good _ => rfl
    | early _ hw _ hd _ he => exact absurd (.inl he) (h _ hw _ hd)
    | below _ hw _ hd _ _ he => exact absurd (.inr he) (h _ hw _ hd)
  | early h1 h2 h3 h4 h5 h6 =>
    cases g with
    | good g => exact absurd (.inl h6) (g _ h2 _ h4)
    | early g1 g2 g3 g4 g5 g6 =>
      obtain ⟨rfl, rfl⟩ := first_uniq nd h1 h2 h3 h4 h5 (.inl h6) g1 g2 g3 g4 g5 (.inl g6)
      rfl
    | below g1 g2 g3 g4 g5 g6 g7 =>
      obtain ⟨rfl, rfl⟩ := first_uniq nd h1 h2 h3 h4 h5 (.inl h6) g1 g2 g3 g4 g5 (.inr g7)
      exact absurd h6 g6
  | below h1 h2 h3 h4 h5 h6 h7 =>
    cases g with
    | good g => exact absurd (.inr h7) (g _ h2 _ h4)
    | early g1 g2 g3 g4 g5 g6 =>
      obtain ⟨rfl, rfl⟩ := first_uniq nd h1 h2 h3 h4 h5 (.inr h7) g1 g2 g3 g4 g5 (.inl g6)
      exact absurd g6 h6
    | below g1 g2 g3 g4 g5 g6 g7 =>
      obtain ⟨rfl, rfl⟩ := first_uniq nd h1 h2 h3 h4 h5 (.inr h7) g1 g2 g3 g4 g5 (.inr g7)
      rfl
theorem PlanOk.rowP {s : Shop} {pl : List (Str × List Int)} {n : Nat} (h : PlanOk s pl n) {w : Ware} (hw : w ∈ s.ws) : getS pl w.nm = some (rowP pl w.nm) ∧ (N.rowP pl w.nm).length = n ∧ ∀ x ∈ N.rowP pl w.nm, 0 ≤ x ∧ x.natAbs.log2 < 4000 := by
  obtain ⟨row, h1, h2, h3⟩ := h.row hw
  have e : N.rowP pl w.nm = row := by unfold N.rowP; rw [h1]; rfl
  rw [e]
  exact ⟨h1, h2, h3⟩
/-- no day below the floor, and none with a lot too many -/
def LeastAt (s : Shop) (pl : List (Str × List Int)) (n : Nat) (w : Ware) : Prop := ∀ d, d < n → w.floor ≤ (stockP s pl w n).getD d 0 ∧ (0 < (rowP pl w.nm).getD d 0 → (stockP s pl w n).getD d 0 - w.gives < w.floor)
end N

--@uses judge
namespace N
open PySem L2 VL
/-! ### the told plan keeps, and is least row by row -/
theorem rowF_getD_sum : ∀ (row : List Int) (k : Nat), k ≤ row.length → (rowF k fun e => row.getD e 0).sum = (row.take k).sum
  | row, 0, _ => by rw [List.take_zero]; rfl
  | row, k + 1, h => by
    have hk : row[k]? = some (row.getD k 0) := by rw [List.getD_eq_getElem?_getD, List.getElem?_eq_getElem (by omega)]; rfl
    rw [rowF_succ_sum, rowF_getD_sum row k (by omega), take_one hk, List.sum_append]
    simp
theorem stockP_left {s : Shop} {pl : List (Str × List Int)} {w : Ware} {n d : Nat} (hl : (rowP pl w.nm).length = n) (hd : d < n) : (stockP s pl w n).getD d 0 = leftAt (rowF n (hadF w)) (rowF n (needF s pl w.nm)) w.gives (rowP pl w.nm) d := by
  have e : (stockP s pl w n)[d]? = some (0 + ((rowF n fun d => hadF w d + w.gives * (rowP pl w.nm).getD d 0 - needF s pl w.nm d).take (d + 1)).sum) := soFar_get 0 _ d _ (rowF_get hd)
  rw [List.getD_eq_getElem?_getD, e]
  show 0 + _ = _
  rw [rowF_take (by omega)]
  unfold leftAt
  rw [rowF_take (by omega), rowF_take (by omega)]
  have e1 : (rowF (d + 1) fun d => hadF w d + w.gives * (rowP pl w.nm).getD d 0 - needF s pl w.nm d) = rowF (d + 1) fun d => (hadF w d + w.gives * (rowP pl w.nm).getD d 0) + (-1) * needF s pl w.nm d := rowF_congr fun d _ => by omega
  rw [e1, rowF_sum_add, rowF_sum_add, rowF_sum_mul, rowF_sum_mul, rowF_getD_sum _ _ (by omega), Int.mul_comm w.gives]
  omega
theorem rowP_least {s : Shop} (nd : s.names.Nodup) {n : Nat} {w : Ware} (hw : w ∈ s.ws) : rowP (leastPlan s n) w.nm = rowOf s n w.nm := by
  unfold rowP
  rw [plan_get nd (List.mem_map_of_mem (f := fun w : Ware => w.nm) hw)]
  rfl
theorem least_at {s : Shop} {n : Nat} (h : PlanIn s n) {w : Ware} (hw : w ∈ s.ws) : LeastAt s (leastPlan s n) n w := fun d hd => by
  have er := rowP_least (n := n) h.a.ok.nd hw
  have hlen := rowOf_len (n := n) h.a hw
  rw [stockP_left (by rw [er]; exact hlen) hd, er]
  have hx : (rowOf s n w.nm)[d]? = some ((rowOf s n w.nm).getD d 0) := by rw [List.getD_eq_getElem?_getD, List.getElem?_eq_getElem (by omega)]; rfl
  have e := rowOf_eq (n := n) h.a hw
  rw [e] at hx
  have hg : 0 < w.gives := by have := (h.ws w hw).gives.1; omega
  have := least_right hg hx (rowF_get hd) (rowF_get hd)
  rw [← e] at this
  exact ⟨this.2.1, this.2.2⟩
theorem plan_ok {s : Shop} {n : Nat} (g : ShopG s) (ac : Acyclic (partsOf s)) (h : PlanIn s n) (hn : n ≤ 900) : PlanOk s (leastPlan s n) n := ⟨g, ac, h.dn, hn, fun w hw => ⟨rowOf s n w.nm, plan_get h.a.ok.nd (List.mem_map_of_mem (f := fun w : Ware => w.nm) hw), rowOf_len h.a hw, fun x hx => ⟨rowOf_nn h.a hw x hx, plan_log h hw x hx⟩⟩⟩
theorem early_iff {s : Shop} {n : Nat} (h : PlanIn s n) {w : Ware} (hw : w ∈ s.ws) {d : Nat} (hd : d < n) : EarlyAt (leastPlan s n) w d ↔ ∃ x, Early s n w d x := by
  unfold EarlyAt Early
  rw [rowP_least h.a.ok.nd hw]
  have hlen := rowOf_len (n := n) h.a hw
  have hx : (rowOf s n w.nm)[d]? = some ((rowOf s n w.nm).getD d 0) := by rw [List.getD_eq_getElem?_getD, List.getElem?_eq_getElem (by omega)]; rfl
  constructor
  · exact fun ⟨h1, h2⟩ => ⟨_, hx, h1, h2⟩
  · rintro ⟨x, h1, h2, h3⟩
    rw [hx] at h1
    cases h1
    exact ⟨h2, h3⟩
/-- THE TOLD PLAN KEEPS -/
theorem told_keeps {s : Shop} {n : Nat} (h : PlanIn s n) (hp : ∀ w ∈ s.ws, ∀ d x, ¬ Early s n w d x) : ∀ w ∈ s.ws, ∀ d, d < n → ¬ Flt s (leastPlan s n) n w d := fun w hw d hd z => by
  rcases z with z | z
  · obtain ⟨x, hx⟩ := (early_iff h hw hd).mp z
    exact hp w hw d x hx
  · have := (least_at h hw d hd).1
    unfold BelowAt at z
    omega
end N

--@uses keeps
namespace N
open PySem L2 VL
/-! ### the least plan lies beneath every plan that keeps -/
theorem take_mono {l : List Int} (h : ∀ x ∈ l, 0 ≤ x) {j k : Nat} (hjk : j ≤ k) : (l.take j).sum ≤ (l.take k).sum := by
  have := take_le_sum (l := l.take k) (fun x hx => h x (List.mem_of_mem_take hx)) j
  rw [List.take_take, Nat.min_eq_left hjk] at this
  exact this
theorem least_below {a b b' l : List Int} {g f : Int} {n : Nat} (hg : 0 < g) (ha : a.length = n) (hb : b.length = n) (hbb : ∀ i, i < n → (b.take (i + 1)).sum ≤ (b'.take (i + 1)).sum) (hl : ∀ x ∈ l, 0 ≤ x) (hk : ∀ i, i < n → f ≤ leftAt a b' g l i) :
    ∀ k, k ≤ n → ((leastLots a b g f).take k).sum ≤ (l.take k).sum
  | 0, _ => by rw [List.take_zero, List.take_zero]; exact Int.le_refl _
  | k + 1, h => by
    have ih := least_below hg ha hb hbb hl hk k (by omega)
    have ek : k < n := by omega
    have hak : a[k]? = some a[k] := List.getElem?_eq_getElem (by omega)
    have hbk : b[k]? = some b[k] := List.getElem?_eq_getElem (by omega)
    have ht := soFar_get 0 a k _ hak
    have hn := soFar_get 0 b k _ hbk
    have hx := zip_get ht hn
    have e1 : ((leastLots a b g f).take (k + 1)).sum = max (llAt g f 0 (((soFar 0 a).zip (soFar 0 b)).take k)) (-((0 + (a.take (k + 1)).sum - (0 + (b.take (k + 1)).sum) - f) / g)) := by
      unfold leastLots
      rw [llGo_take, take_one hx]
      have := llGo_sum g f 0 (((soFar 0 a).zip (soFar 0 b)).take k ++ [(0 + (a.take (k + 1)).sum, 0 + (b.take (k + 1)).sum)])
      rw [Int.zero_add] at this
      rw [this, llAt_app]
    have e2 : llAt g f 0 (((soFar 0 a).zip (soFar 0 b)).take k) = ((leastLots a b g f).take k).sum := by
      unfold leastLots
      rw [llGo_take]
      have := llGo_sum g f 0 (((soFar 0 a).zip (soFar 0 b)).take k)
      rw [Int.zero_add] at this
      exact this.symm
    have hm := take_mono hl (show k ≤ k + 1 by omega)
    have hkk := hk k ek
    have hbk' := hbb k ek
    unfold leftAt at hkk
    have h3 : -(l.take (k + 1)).sum ≤ (0 + (a.take (k + 1)).sum - (0 + (b.take (k + 1)).sum) - f) / g := by
      refine Int.le_ediv_of_mul_le hg ?_
      rw [Int.neg_mul]
      omega
    rw [e1, e2]
    omega
theorem sum_rep0 : ∀ m : Nat, (List.replicate m (0 : Int)).sum = 0
  | 0 => rfl
  | m + 1 => by rw [List.replicate_succ, List.sum_cons, sum_rep0 m]; rfl
/-- what is begun up to a day, in all -/
theorem begun_take {lag : Int} (h0 : 0 ≤ lag) {row : List Int} {k : Nat} (hk : k ≤ row.length) : (rowF k fun d => (begunRow lag row).getD d 0).sum = (row.take (lag.toNat + k)).sum - (row.take lag.toNat).sum := by
  rw [rowF_getD_sum _ _ (by rw [begunRow_len h0]; exact hk)]
  unfold begunRow
  have e : (row.take (lag.toNat + k)).sum = (row.take lag.toNat).sum + ((row.drop lag.toNat).take k).sum := by
    rw [List.take_add, List.sum_append]
  rw [e, List.take_append, List.sum_append, List.take_replicate, sum_rep0]
  omega
theorem begunOn_sum {pl : List (Str × List Int)} {v : Ware} (h0 : 0 ≤ v.lag) {k n : Nat} (hl : (rowP pl v.nm).length = n) (hk : k ≤ n) : (rowF k (begunOn pl v)).sum = ((rowP pl v.nm).take (v.lag.toNat + k)).sum - ((rowP pl v.nm).take v.lag.toNat).sum := begun_take (row := rowP pl v.nm) h0 (show k ≤ (rowP pl v.nm).length by rw [hl]; exact hk)
theorem no_early_sum {row : List Int} (h0 : ∀ x ∈ row, 0 ≤ x) {lag : Int} (he : ∀ d, d < row.length → (d : Int) < lag → ¬ 0 < row.getD d 0) : ∀ k : Nat, (k : Int) ≤ lag → (row.take k).sum = 0
  | 0, _ => by rw [List.take_zero]; rfl
  | k + 1, h => by
    by_cases hk : k < row.length
    · have hr : row[k]? = some (row.getD k 0) := by rw [List.getD_eq_getElem?_getD, List.getElem?_eq_getElem hk]; rfl
      have h1 := h0 _ (List.mem_of_getElem? hr)
      have h2 := he k hk (by omega)
      have h3 : row.getD k 0 = 0 := by omega
      rw [take_one hr, List.sum_append, no_early_sum h0 he k (by omega), h3]
      rfl
    · rw [List.take_of_length_le (by omega)]
      have := no_early_sum h0 he k (by omega)
      rwa [List.take_of_length_le (by omega)] at this
theorem takeOn_sum (pl : List (Str × List Int)) (nm : Str) (k : Nat) : ∀ vs : List Ware, (rowF k (takeOn pl vs nm)).sum = (vs.map fun v => partSum v.parts nm * (rowF k (begunOn pl v)).sum).sum
  | [] => by
    rw [show rowF k (takeOn pl [] nm) = rowF k (fun d => 0 * (0 : Int)) from rowF_congr fun d _ => by rfl, rowF_sum_mul]
    simp
  | v :: r => by
    have ih := takeOn_sum pl nm k r
    rw [show rowF k (takeOn pl (v :: r) nm) = rowF k fun d => partSum v.parts nm * begunOn pl v d + takeOn pl r nm d from rowF_congr fun d _ => by
      unfold takeOn
      rw [List.map_cons, List.sum_cons, takeParts_eq], rowF_sum_add, rowF_sum_mul, ih, List.map_cons, List.sum_cons]
theorem sum_le_map {α : Type} {f g : α → Int} : ∀ {l : List α}, (∀ x ∈ l, f x ≤ g x) → (l.map f).sum ≤ (l.map g).sum
  | [], _ => Int.le_refl _
  | x :: r, h => by
    rw [List.map_cons, List.map_cons, List.sum_cons, List.sum_cons]
    have h1 := h x List.mem_cons_self
    have h2 := sum_le_map fun y hy => h y (List.mem_cons_of_mem x hy)
    omega
/-- THE LEAST PLAN LIES BENEATH -/
theorem beneath {s : Shop} {n : Nat} (h : PlanIn s n) {pl : List (Str × List Int)} (hpl : ∀ w ∈ s.ws, (rowP pl w.nm).length = n ∧ ∀ x ∈ rowP pl w.nm, 0 ≤ x) (hk : ∀ w ∈ s.ws, ∀ d, d < n → ¬ Flt s pl n w d) :
    ∀ w ∈ s.ws, ∀ k, k ≤ n → ((rowOf s n w.nm).take k).sum ≤ ((rowP pl w.nm).take k).sum := by
  have nd := h.a.ok.nd
  have key : ∀ (i : Nat) (w : Ware), w ∈ s.ws → (workedOf s)[i]? = some w.nm → ∀ k, k ≤ n → ((rowOf s n w.nm).take k).sum ≤ ((rowP pl w.nm).take k).sum := fun i => by
    induction i using Nat.strongRecOn with
    | ind i ih =>
      intro w hw hi
      have hwg := h.ws w hw
      have hg : 0 < w.gives := by have := hwg.gives.1; omega
      rw [rowOf_eq h.a hw]
      refine least_below (b' := rowF n (needF s pl w.nm)) hg (rowF_len _ _) (rowF_len _ _) (fun j hj => ?_) (hpl w hw).2 (fun j hj => ?_)
      · rw [rowF_take (by omega), rowF_take (by omega)]
        have es : ∀ pl' : List (Str × List Int), (rowF (j + 1) (needF s pl' w.nm)).sum = (rowF (j + 1) (wantOn s.wants w.nm)).sum + (rowF (j + 1) (takeOn pl' s.ws w.nm)).sum := fun pl' => rowF_sum_add _ _ _
        rw [es, es, takeOn_sum, takeOn_sum]
        refine Int.add_le_add_left (sum_le_map fun v hv => ?_) _
        have hps := (partSum_le (h.ws v hv) w.nm).1
        by_cases e : w.nm ∈ v.parts.map (·.1)
        · refine Int.mul_le_mul_of_nonneg_left ?_ hps
          obtain ⟨p, hp, ep⟩ := List.mem_map.mp e
          have hvn : v.nm ∈ s.names := List.mem_map_of_mem (f := fun w : Ware => w.nm) hv
          obtain ⟨m, hm⟩ := List.getElem?_of_mem (workedOf_mem.mpr hvn)
          obtain ⟨m', hm1, hm2⟩ := parts_behind h.a hv hm hp
          rw [ep] at hm2
          have hmi := (List.getElem?_inj (lt_of_get hm2) (workedOf_nodup nd)).mp (hm2.trans hi.symm)
          subst hmi
          have hlag := (h.ws v hv).lag.1
          have er := rowP_least (n := n) nd hv
          rw [begunOn_sum hlag (by rw [er]; exact rowOf_len h.a hv) (show j + 1 ≤ n by omega), begunOn_sum hlag (hpl v hv).1 (show j + 1 ≤ n by omega), er]
          have h0 := no_early_sum (hpl v hv).2 (lag := v.lag) (fun d hd hl z => hk v hv d (by have := (hpl v hv).1; omega) (.inl ⟨z, hl⟩)) v.lag.toNat (by omega)
          have h1 := sum_nn (l := (rowOf s n v.nm).take v.lag.toNat) fun x hx => rowOf_nn h.a hv x (List.mem_of_mem_take hx)
          have h2 : ((rowOf s n v.nm).take (v.lag.toNat + (j + 1))).sum ≤ ((rowP pl v.nm).take (v.lag.toNat + (j + 1))).sum := by
            by_cases q : v.lag.toNat + (j + 1) ≤ n
            · exact ih m hm1 v hv hm _ q
            · rw [List.take_of_length_le (by rw [rowOf_len h.a hv]; omega), List.take_of_length_le (by rw [(hpl v hv).1]; omega)]
              have := ih m hm1 v hv hm n (Nat.le_refl _)
              rwa [List.take_of_length_le (by rw [rowOf_len h.a hv]; exact Nat.le_refl _), List.take_of_length_le (by rw [(hpl v hv).1]; exact Nat.le_refl _)] at this
          omega
        · rw [partSum_none fun p hp q => e (by rw [← q]; exact List.mem_map_of_mem (f := (·.1)) hp)]
          simp
      · rw [← stockP_left (hpl w hw).1 hj]
        have := hk w hw j hj
        unfold Flt BelowAt at this
        by_cases q : (stockP s pl w n).getD j 0 < w.floor
        · exact absurd (.inr q) this
        · omega
  intro w hw k hkn
  obtain ⟨i, hi⟩ := List.getElem?_of_mem (workedOf_mem.mpr (List.mem_map_of_mem (f := fun w : Ware => w.nm) hw : w.nm ∈ s.names))
  exact key i w hw hi k hkn
/-- where some plan keeps, a plan is told -/
theorem keeps_told {s : Shop} {n : Nat} (h : PlanIn s n) {pl : List (Str × List Int)} (hpl : ∀ w ∈ s.ws, (rowP pl w.nm).length = n ∧ ∀ x ∈ rowP pl w.nm, 0 ≤ x) (hk : ∀ w ∈ s.ws, ∀ d, d < n → ¬ Flt s pl n w d) : ∀ w ∈ s.ws, ∀ d x, ¬ Early s n w d x := fun w hw d x hx => by
  obtain ⟨h1, h2, h3⟩ := hx
  have hlen := rowOf_len (n := n) h.a hw
  have hd : d < n := by have := lt_of_get h1; omega
  have hb := beneath h hpl hk w hw (d + 1) (by omega)
  have h0 := no_early_sum (hpl w hw).2 (lag := w.lag) (fun e he hl z => hk w hw e (by have := (hpl w hw).1; omega) (.inl ⟨z, hl⟩)) (d + 1) (by omega)
  have h4 := sum_nn (l := (rowOf s n w.nm).take d) fun y hy => rowOf_nn h.a hw y (List.mem_of_mem_take hy)
  rw [h0, take_one h1, List.sum_append] at hb
  simp at hb
  omega
end N

--@uses plan
namespace N
open PySem L2 VL
def shiftW (k : Int) (w : Want) : Want := (w.1, w.2.1 + k, w.2.2)
def putOff (s : Shop) (k : Int) : Shop := ⟨s.ws, s.wants.map (shiftW k)⟩
end N

--@uses beneath putoff
namespace N
open PySem L2 VL
/-! ### plans with further wants -/
def Has (s : Shop) (n : Nat) : Prop := ∀ w ∈ s.ws, ∀ d x, ¬ Early s n w d x
theorem times_ex {s : Shop} (hA : ShopA s) : ∃ f, TimesTo s s.names f := by
  have key : ∀ i, i ≤ (workedOf s).reverse.length → ∃ f, TimesTo s ((workedOf s).reverse.take i) f := fun i => by
    induction i with
    | zero => exact fun _ => ⟨fun _ => 0, fun w _ h => (by rw [List.take_zero] at h; cases h)⟩
    | succ i ih =>
      intro h
      obtain ⟨f, hf⟩ := ih (by omega)
      have hx : (workedOf s).reverse[i]? = some (workedOf s).reverse[i] := List.getElem?_eq_getElem (by omega)
      obtain ⟨w, hw, e⟩ := ware_named (workedOf_mem.mp (List.mem_reverse.mp (List.mem_of_getElem? hx)))
      rw [← e] at hx
      have hm : ∃ m, IsMax0 (w.parts.map fun p => f p.1) m := by
        have : ∀ l : List Int, ∃ m, IsMax0 l m := fun l => by
          induction l with
          | nil => exact ⟨0, .inl ⟨rfl, rfl⟩⟩
          | cons x r ih =>
            obtain ⟨m, hm⟩ := ih
            rcases hm with ⟨rfl, rfl⟩ | ⟨h1, h2⟩
            · exact ⟨x, .inr ⟨List.mem_cons_self, fun y hy => by cases List.mem_singleton.mp hy; exact Int.le_refl _⟩⟩
            · by_cases q : x ≤ m
              · refine ⟨m, .inr ⟨List.mem_cons_of_mem _ h1, fun y hy => ?_⟩⟩
                rcases List.mem_cons.mp hy with rfl | hy
                · exact q
                · exact h2 y hy
              · refine ⟨x, .inr ⟨List.mem_cons_self, fun y hy => ?_⟩⟩
                rcases List.mem_cons.mp hy with rfl | hy
                · exact Int.le_refl _
                · have := h2 y hy
                  omega
        exact this _
      obtain ⟨m, hm⟩ := hm
      exact ⟨_, hf.snoc hA hw hx hm⟩
  obtain ⟨f, hf⟩ := key _ (Nat.le_refl _)
  rw [List.take_length] at hf
  exact ⟨f, fun w hw h => hf w hw (List.mem_reverse.mpr (workedOf_mem.mpr h))⟩
theorem times_part {s : Shop} {f : Str → Int} (h : TimesTo s s.names f) {w : Ware} (hw : w ∈ s.ws) : w.lag ≤ f w.nm ∧ (∀ p ∈ w.parts, f p.1 ≤ f w.nm - w.lag) ∨ (∃ p ∈ w.parts, f p.1 < 0) := by
  obtain ⟨m, h1, h2⟩ := h w hw (List.mem_map_of_mem (f := fun w : Ware => w.nm) hw)
  rcases h1 with ⟨e, h1⟩ | ⟨h1, h3⟩
  · refine .inl ⟨by omega, fun p hp => ?_⟩
    rw [List.map_eq_nil_iff.mp e] at hp
    cases hp
  · by_cases q : 0 ≤ m
    · exact .inl ⟨by omega, fun p hp => by have := h3 _ (List.mem_map_of_mem (f := fun p : Str × Int => f p.1) hp); omega⟩
    · obtain ⟨p, hp, e⟩ := List.mem_map.mp h1
      exact .inr ⟨p, hp, by omega⟩
theorem times_nn {s : Shop} (hA : ShopA s) (hl : ∀ w ∈ s.ws, 0 ≤ w.lag) {f : Str → Int} (h : TimesTo s s.names f) : ∀ x ∈ s.names, 0 ≤ f x := by
  obtain ⟨rank, hr⟩ := hA.ac
  have key : ∀ (n : Nat) (x : Str), x ∈ s.names → rank x ≤ n → 0 ≤ f x := fun n => by
    induction n with
    | zero =>
      intro x hx hn
      obtain ⟨w, hw, rfl⟩ := ware_named hx
      have := hl w hw
      rcases times_part h hw with q | ⟨p, hp, q⟩
      · omega
      · have := hr w.nm (w.parts.map (·.1)) (List.mem_map.mpr ⟨w, hw, rfl⟩) p.1 (List.mem_map_of_mem (f := (·.1)) hp)
        omega
    | succ n ih =>
      intro x hx hn
      obtain ⟨w, hw, rfl⟩ := ware_named hx
      have := hl w hw
      rcases times_part h hw with q | ⟨p, hp, q⟩
      · omega
      · have := hr w.nm (w.parts.map (·.1)) (List.mem_map.mpr ⟨w, hw, rfl⟩) p.1 (List.mem_map_of_mem (f := (·.1)) hp)
        have := ih p.1 (hA.ok.sub w hw p hp) (by omega)
        omega
  exact fun x hx => key (rank x) x hx (Nat.le_refl _)
theorem times_parts {s : Shop} (hA : ShopA s) (hl : ∀ w ∈ s.ws, 0 ≤ w.lag) {f : Str → Int} (h : TimesTo s s.names f) {w : Ware} (hw : w ∈ s.ws) : w.lag ≤ f w.nm ∧ ∀ p ∈ w.parts, f p.1 ≤ f w.nm - w.lag := by
  rcases times_part h hw with q | ⟨p, hp, q⟩
  · exact q
  · have := times_nn hA hl h p.1 (hA.ok.sub w hw p hp)
    omega
/-! plans as functions -/
def begP (P : Str → Nat → Int) (n : Nat) (v : Ware) (d : Nat) : Int := if d + v.lag.toNat < n then P v.nm (d + v.lag.toNat) else 0
def takeP (ws : List Ware) (P : Str → Nat → Int) (n : Nat) (nm : Str) (d : Nat) : Int := (ws.map fun v => partSum v.parts nm * begP P n v d).sum
def planF (s : Shop) (n : Nat) (P : Str → Nat → Int) : List (Str × List Int) := fnS s.names fun x => rowF n (P x)
theorem planF_row {s : Shop} {n : Nat} {P : Str → Nat → Int} {w : Ware} (hw : w ∈ s.ws) : rowP (planF s n P) w.nm = rowF n (P w.nm) := by
  unfold rowP planF
  rw [getS_fn (show w.nm ∈ s.names from List.mem_map_of_mem (f := fun w : Ware => w.nm) hw)]
  rfl
theorem begunOn_fn {pl : List (Str × List Int)} {v : Ware} {n : Nat} (h0 : 0 ≤ v.lag) (hl : (rowP pl v.nm).length = n) {d : Nat} (hd : d < n) : begunOn pl v d = if d + v.lag.toNat < n then (rowP pl v.nm).getD (d + v.lag.toNat) 0 else 0 := by
  have e := begun_get (row := rowP pl v.nm) h0 (d := d) (by omega)
  show (begunRow v.lag (rowP pl v.nm)).getD d 0 = _
  rw [List.getD_eq_getElem?_getD, e, hl]
  rfl
theorem rowF_getD {n : Nat} {f : Nat → Int} {d : Nat} (h : d < n) : (rowF n f).getD d 0 = f d := by
  rw [List.getD_eq_getElem?_getD, rowF_get h]
  rfl
theorem needF_fn {s : Shop} {pl : List (Str × List Int)} {n : Nat} (hl : ∀ v ∈ s.ws, 0 ≤ v.lag) (hr : ∀ v ∈ s.ws, (rowP pl v.nm).length = n) {P : Str → Nat → Int} (hP : ∀ v ∈ s.ws, ∀ d, d < n → P v.nm d = (rowP pl v.nm).getD d 0) {d : Nat} (hd : d < n) (nm : Str) : needF s pl nm d = wantOn s.wants nm d + takeP s.ws P n nm d := by
  unfold needF takeOn takeP
  congr 2
  refine List.map_congr_left fun v hv => ?_
  rw [takeParts_eq, begunOn_fn (hl v hv) (hr v hv) hd]
  congr 1
  unfold begP
  split
  · rw [hP v hv _ (by assumption)]
  · rfl
/-- a plan that keeps, as a function -/
def KeepsP (s : Shop) (n : Nat) (P : Str → Nat → Int) : Prop := ∀ w ∈ s.ws, ∀ d, d < n → 0 ≤ P w.nm d ∧ (0 < P w.nm d → w.lag ≤ d) ∧
  w.floor ≤ (rowF (d + 1) (hadF w)).sum - (rowF (d + 1) fun e => wantOn s.wants w.nm e + takeP s.ws P n w.nm e).sum + w.gives * (rowF (d + 1) (P w.nm)).sum
theorem rowF_le_congr {f g : Nat → Int} {n : Nat} (h : ∀ d, d < n → f d = g d) : (rowF n f).sum = (rowF n g).sum := by rw [rowF_congr h]
/-- the least plan that is told keeps -/
theorem keepsP_of {s : Shop} {n : Nat} (h : PlanIn s n) (hp : Has s n) : ∃ P, KeepsP s n P := by
  refine ⟨fun x d => (rowOf s n x).getD d 0, fun w hw d hd => ?_⟩
  have hl : ∀ v ∈ s.ws, 0 ≤ v.lag := fun v hv => (h.ws v hv).lag.1
  have er := rowP_least (n := n) h.a.ok.nd hw
  have hlen := rowOf_len (n := n) h.a hw
  have hx : (rowOf s n w.nm)[d]? = some ((rowOf s n w.nm).getD d 0) := by rw [List.getD_eq_getElem?_getD, List.getElem?_eq_getElem (by omega)]; rfl
  have hla := (least_at h hw d hd).1
  rw [stockP_left (by rw [er]; exact hlen) hd, er] at hla
  unfold leftAt at hla
  rw [rowF_take (by omega), rowF_take (by omega)] at hla
  refine ⟨rowOf_nn h.a hw _ (List.mem_of_getElem? hx), fun q => ?_, ?_⟩
  · by_cases e : w.lag ≤ d
    · exact e
    · exact absurd ⟨hx, q, by omega⟩ (hp w hw d _)
  · have e1 : (rowF (d + 1) (needF s (leastPlan s n) w.nm)).sum = (rowF (d + 1) fun e => wantOn s.wants w.nm e + takeP s.ws (fun x d => (rowOf s n x).getD d 0) n w.nm e).sum := rowF_le_congr fun e he => needF_fn hl (fun v hv => by rw [rowP_least h.a.ok.nd hv]; exact rowOf_len h.a hv) (fun v hv e _ => by rw [rowP_least h.a.ok.nd hv]) (by omega) w.nm
    have e2 : (rowF (d + 1) fun e => (rowOf s n w.nm).getD e 0).sum = ((rowOf s n w.nm).take (d + 1)).sum := rowF_getD_sum _ _ (by omega)
    show _ ≤ _ - _ + w.gives * (rowF (d + 1) fun e => (rowOf s n w.nm).getD e 0).sum
    rw [← e1, e2, Int.mul_comm]
    exact hla
/-- where some plan keeps, one is told -/
theorem keepsP_has {s : Shop} {n : Nat} (h : PlanIn s n) {P : Str → Nat → Int} (hk : KeepsP s n P) : Has s n := by
  have hl : ∀ v ∈ s.ws, 0 ≤ v.lag := fun v hv => (h.ws v hv).lag.1
  have hrow : ∀ v ∈ s.ws, rowP (planF s n P) v.nm = rowF n (P v.nm) := fun v hv => planF_row hv
  refine keeps_told h (pl := planF s n P) (fun w hw => ?_) (fun w hw d hd => ?_)
  · rw [hrow w hw]
    refine ⟨rowF_len _ _, fun x hx => ?_⟩
    obtain ⟨d, hd, rfl⟩ := List.mem_map.mp hx
    exact (hk w hw d (List.mem_range.mp hd)).1
  · obtain ⟨h1, h2, h3⟩ := hk w hw d hd
    rintro (z | z)
    · unfold EarlyAt at z
      rw [hrow w hw, rowF_getD hd] at z
      have := h2 z.1
      omega
    · unfold BelowAt at z
      rw [stockP_left (by rw [hrow w hw]; exact rowF_len _ _) hd, hrow w hw] at z
      unfold leftAt at z
      rw [rowF_take (by omega), rowF_take (by omega), rowF_take (by omega)] at z
      have e1 : (rowF (d + 1) (needF s (planF s n P) w.nm)).sum = (rowF (d + 1) fun e => wantOn s.wants w.nm e + takeP s.ws P n w.nm e).sum := rowF_le_congr fun e he => needF_fn hl (fun v hv => by rw [hrow v hv]; exact rowF_len _ _) (fun v hv e he => by rw [hrow v hv, rowF_getD he]) (by omega) w.nm
      rw [e1, Int.mul_comm] at z
      omega
/-! ### the chain of lots for further needs -/
theorem takeP_add (P X : Str → Nat → Int) (n : Nat) (nm : Str) (d : Nat) : ∀ ws : List Ware, takeP ws (fun x e => P x e + X x e) n nm d = takeP ws P n nm d + takeP ws X n nm d
  | [] => rfl
  | v :: r => by
    have ih := takeP_add P X n nm d r
    unfold takeP at ih ⊢
    rw [List.map_cons, List.map_cons, List.map_cons, List.sum_cons, List.sum_cons, List.sum_cons, ih]
    have : begP (fun x e => P x e + X x e) n v d = begP P n v d + begP X n v d := by
      unfold begP
      split
      · rfl
      · rfl
    rw [this, Int.mul_add]
    omega
theorem takeP_congr {P Q : Str → Nat → Int} {n m : Nat} {nm : Str} {d : Nat} {ws : List Ware} (h : ∀ v ∈ ws, nm ∈ v.parts.map (·.1) → begP P n v d = begP Q m v d) : takeP ws P n nm d = takeP ws Q m nm d := by
  unfold takeP
  congr 1
  refine List.map_congr_left fun v hv => ?_
  by_cases e : nm ∈ v.parts.map (·.1)
  · rw [h v hv e]
  · rw [partSum_none fun p hp q => e (by rw [← q]; exact List.mem_map_of_mem (f := (·.1)) hp)]
    simp
theorem chain_ex {s : Shop} (hA : ShopA s) (hg : ∀ w ∈ s.ws, WareG w) {f : Str → Int} (hf : TimesTo s s.names f) (n : Nat) {E : Str → Nat → Int} (h0 : ∀ x d, 0 ≤ E x d) (ht : ∀ x d, 0 < E x d → f x ≤ d) :
    ∃ X : Str → Nat → Int, (∀ x d, 0 ≤ X x d) ∧ (∀ w ∈ s.ws, ∀ d, 0 < X w.nm d → f w.nm ≤ d) ∧ ∀ w ∈ s.ws, ∀ d, E w.nm d + takeP s.ws X n w.nm d ≤ w.gives * X w.nm d := by
  have hl : ∀ w ∈ s.ws, 0 ≤ w.lag := fun w hw => (hg w hw).lag.1
  have key : ∀ i, i ≤ (workedOf s).length → ∃ X : Str → Nat → Int, (∀ x d, 0 ≤ X x d) ∧ (∀ x, x ∉ (workedOf s).take i → ∀ d, X x d = 0) ∧ (∀ w ∈ s.ws, ∀ d, 0 < X w.nm d → f w.nm ≤ d) ∧ ∀ w ∈ s.ws, w.nm ∈ (workedOf s).take i → ∀ d, E w.nm d + takeP s.ws X n w.nm d ≤ w.gives * X w.nm d := fun i => by
    induction i with
    | zero => exact fun _ => ⟨fun _ _ => 0, fun _ _ => Int.le_refl 0, fun _ _ _ => rfl, fun _ _ _ h => absurd h (Int.lt_irrefl 0), fun w _ h => (by rw [List.take_zero] at h; cases h)⟩
    | succ i ih =>
      intro h
      obtain ⟨X, x0, xz, xt, xk⟩ := ih (by omega)
      have hx : (workedOf s)[i]? = some (workedOf s)[i] := List.getElem?_eq_getElem (by omega)
      obtain ⟨w, hw, e⟩ := ware_named (workedOf_mem.mp (List.mem_of_getElem? hx))
      rw [← e] at hx
      have hgw := hg w hw
      have hg1 : 0 < w.gives := by have := hgw.gives.1; omega
      have hnew : w.nm ∉ (workedOf s).take i := not_take (workedOf_nodup hA.ok.nd) hx
      obtain ⟨need, hneed⟩ : ∃ need : Nat → Int, need = fun d => E w.nm d + takeP s.ws X n w.nm d := ⟨_, rfl⟩
      have users : ∀ v ∈ s.ws, w.nm ∈ v.parts.map (·.1) → f w.nm ≤ f v.nm - v.lag := fun v hv hm => by
        obtain ⟨p, hp, ep⟩ := List.mem_map.mp hm
        rw [← ep]
        exact (times_parts hA hl hf hv).2 p hp
      have need0 : ∀ d, 0 ≤ need d := fun d => by
        rw [hneed]
        have h1 := h0 w.nm d
        have h2 : 0 ≤ takeP s.ws X n w.nm d := sum_nn fun y hy => by
          obtain ⟨v, hv, rfl⟩ := List.mem_map.mp hy
          refine Int.mul_nonneg (partSum_le (hg v hv) w.nm).1 ?_
          unfold begP
          split
          · exact x0 _ _
          · exact Int.le_refl 0
        show 0 ≤ _ + _
        omega
      have needt : ∀ d, 0 < need d → f w.nm ≤ d := fun d hd => by
        by_cases q : f w.nm ≤ d
        · exact q
        · have e1 : E w.nm d = 0 := by
            have := h0 w.nm d
            by_cases z : 0 < E w.nm d
            · exact absurd (ht _ _ z) q
            · omega
          have e2 : takeP s.ws X n w.nm d = 0 := by
            unfold takeP
            have : (s.ws.map fun v => partSum v.parts w.nm * begP X n v d) = s.ws.map fun _ => (0 : Int) := List.map_congr_left fun v hv => by
              by_cases hm : w.nm ∈ v.parts.map (·.1)
              · have hu := users v hv hm
                have hlv := hl v hv
                have : begP X n v d = 0 := by
                  unfold begP
                  split
                  · have z0 := x0 v.nm (d + v.lag.toNat)
                    by_cases z : 0 < X v.nm (d + v.lag.toNat)
                    · have := xt v hv _ z
                      omega
                    · omega
                  · rfl
                rw [this, Int.mul_zero]
              · rw [partSum_none fun p hp q => hm (by rw [← q]; exact List.mem_map_of_mem (f := (·.1)) hp)]
                simp
            rw [this, List.map_const', List.sum_replicate_int]
            simp
          rw [hneed] at hd
          simp only [e1, e2] at hd
          omega
      have same : ∀ v ∈ s.ws, (v.nm ∈ (workedOf s).take i ∨ v.nm = w.nm) → ∀ (Y : Nat → Int) d, takeP s.ws (fun x => if x = w.nm then Y else X x) n v.nm d = takeP s.ws X n v.nm d := fun v hv hvi Y d => takeP_congr fun u hu hm => by
        obtain ⟨p, hp, ep⟩ := List.mem_map.mp hm
        have hun : u.nm ∈ s.names := List.mem_map_of_mem (f := fun w : Ware => w.nm) hu
        obtain ⟨k, hk⟩ := List.getElem?_of_mem (workedOf_mem.mpr hun)
        obtain ⟨j, hj, hj2⟩ := parts_behind hA hu hk hp
        rw [ep] at hj2
        have hji : j ≤ i := by
          rcases hvi with q | q
          · obtain ⟨m, hm⟩ := List.getElem?_of_mem q
            have hml := lt_of_get hm
            rw [List.length_take] at hml
            rw [List.getElem?_take, if_pos (by omega)] at hm
            have := (List.getElem?_inj (lt_of_get hj2) (workedOf_nodup hA.ok.nd)).mp (hj2.trans hm.symm)
            omega
          · rw [q] at hj2
            have := (List.getElem?_inj (lt_of_get hj2) (workedOf_nodup hA.ok.nd)).mp (hj2.trans hx.symm)
            omega
        have hne : u.nm ≠ w.nm := fun z => by
          rw [z] at hk
          have := (List.getElem?_inj (lt_of_get hk) (workedOf_nodup hA.ok.nd)).mp (hk.trans hx.symm)
          omega
        unfold begP
        dsimp only
        rw [if_neg hne]
      have cpos : ∀ d, need d ≤ w.gives * (-((-need d) / w.gives)) := fun d => by
        have h1 := Int.mul_ediv_self_le (x := -need d) (k := w.gives) (by omega)
        rw [Int.mul_neg]
        omega
      have c0 : ∀ d, 0 ≤ -((-need d) / w.gives) := fun d => by
        have h1 := need0 d
        have h2 : (-need d) / w.gives ≤ 0 / w.gives := Int.ediv_le_ediv hg1 (by omega)
        rw [Int.zero_ediv] at h2
        omega
      refine ⟨fun x => if x = w.nm then fun d => -((-need d) / w.gives) else X x, fun x d => ?_, fun x hxn d => ?_, fun v hv d hd => ?_, fun v hv hvl d => ?_⟩
      · dsimp only
        split
        · exact c0 d
        · exact x0 x d
      · rw [take_one hx] at hxn
        dsimp only
        rw [if_neg fun z => hxn (List.mem_append_right _ (by rw [z]; exact List.mem_singleton.mpr rfl))]
        exact xz x (fun z => hxn (List.mem_append_left _ z)) d
      · dsimp only at hd
        split at hd
        · rename_i e2
          rw [e2]
          refine needt d ?_
          have h1 := need0 d
          by_cases z : 0 < need d
          · exact z
          · have : need d = 0 := by omega
            dsimp only at hd
            rw [this] at hd
            simp at hd
        · exact xt v hv d hd
      · rw [take_one hx] at hvl
        by_cases e2 : v.nm = w.nm
        · have := ware_uniq hA.ok.nd hv hw e2
          subst this
          rw [same v hv (.inr rfl)]
          dsimp only
          rw [if_pos rfl]
          have := cpos d
          rw [hneed] at this ⊢
          exact this
        · have hvi : v.nm ∈ (workedOf s).take i := by
            rcases List.mem_append.mp hvl with q | q
            · exact q
            · exact absurd (List.mem_singleton.mp q) e2
          rw [same v hv (.inl hvi)]
          dsimp only
          rw [if_neg e2]
          exact xk v hv hvi d
  obtain ⟨X, x0, _, xt, xk⟩ := key _ (Nat.le_refl _)
  rw [List.take_length] at xk
  exact ⟨X, x0, xt, fun w hw => xk w hw (workedOf_mem.mpr (List.mem_map_of_mem (f := fun w : Ware => w.nm) hw))⟩
theorem rowF_nn {n : Nat} {f : Nat → Int} (h : ∀ d, d < n → 0 ≤ f d) : 0 ≤ (rowF n f).sum := sum_nn fun x hx => by
  obtain ⟨d, hd, rfl⟩ := List.mem_map.mp hx
  exact h d (List.mem_range.mp hd)
theorem rowF_mono {n m : Nat} {f : Nat → Int} (h : ∀ d, d < m → 0 ≤ f d) (hnm : n ≤ m) : (rowF n f).sum ≤ (rowF m f).sum := by
  have := take_le_sum (l := rowF m f) (fun x hx => by
    obtain ⟨d, hd, rfl⟩ := List.mem_map.mp hx
    exact h d (List.mem_range.mp hd)) n
  rwa [rowF_take hnm] at this
theorem rowF_stop {n : Nat} {f : Nat → Int} : ∀ {m : Nat}, n ≤ m → (∀ d, n ≤ d → d < m → f d = 0) → (rowF m f).sum = (rowF n f).sum
  | 0, h, _ => by
    have : n = 0 := by omega
    rw [this]
  | m + 1, h, hz => by
    by_cases e : n = m + 1
    · rw [e]
    · rw [rowF_succ_sum, rowF_stop (m := m) (by omega) fun d h1 h2 => hz d h1 (by omega), hz m (by omega) (by omega)]
      omega
theorem hadF_pos {w : Ware} (h : WareG w) (d : Nat) : 0 ≤ hadF w d := hadF_nn h (d + 1) _ (List.mem_map.mpr ⟨d, List.mem_range.mpr (by omega), rfl⟩)
/-- FURTHER WANTS, none ahead of its ware's time: a plan is told again -/
theorem more_plan {ws : List Ware} {us vs : List Want} {n0 n1 : Nat} (h0 : PlanIn ⟨ws, us⟩ n0) (h1 : PlanIn ⟨ws, vs⟩ n1) {f : Str → Int} (hf : TimesTo ⟨ws, us⟩ (Shop.mk ws us).names f) (hn : n0 ≤ n1) {E : Str → Nat → Int}
    (hE : ∀ x d, wantOn vs x d = wantOn us x d + E x d) (hE0 : ∀ x d, 0 ≤ E x d) (hEt : ∀ x d, 0 < E x d → f x ≤ d) (hp : Has ⟨ws, us⟩ n0) : Has ⟨ws, vs⟩ n1 := by
  obtain ⟨P, hP⟩ := keepsP_of h0 hp
  obtain ⟨X, x0, xt, xk⟩ := chain_ex h0.a h0.ws hf n1 hE0 hEt
  have hl : ∀ v ∈ ws, 0 ≤ v.lag := fun v hv => (h0.ws v hv).lag.1
  have hone := h0.dn.one
  have hQ : ∀ v ∈ ws, ∀ d, begP (fun x d => if d < n0 then P x d else 0) n1 v d = begP P n0 v d := fun v hv d => by
    unfold begP
    dsimp only
    by_cases q : d + v.lag.toNat < n0
    · rw [if_pos (by omega), if_pos q]
    · rw [if_neg q]
      split <;> rfl
  refine keepsP_has h1 (P := fun x d => (fun x d => if d < n0 then P x d else 0) x d + X x d) fun w hw d hd => ?_
  have hgw := h0.ws w hw
  have hg0 : 0 ≤ w.gives := by have := hgw.gives.1; omega
  have hb0 : (if d < n0 then P w.nm d else 0) = (if d < n0 then P w.nm d else 0) := rfl
  have hPd : 0 ≤ (if d < n0 then P w.nm d else 0) ∧ (0 < (if d < n0 then P w.nm d else 0) → w.lag ≤ d) := by
    by_cases q : d < n0
    · rw [if_pos q]
      exact ⟨(hP w hw d q).1, (hP w hw d q).2.1⟩
    · rw [if_neg q]
      exact ⟨Int.le_refl 0, fun z => absurd z (Int.lt_irrefl 0)⟩
  have hXd := x0 w.nm d
  refine ⟨?_, fun z => ?_, ?_⟩
  · show 0 ≤ (if d < n0 then P w.nm d else 0) + X w.nm d
    omega
  · have z : 0 < (if d < n0 then P w.nm d else 0) + X w.nm d := z
    by_cases q : 0 < X w.nm d
    · have := xt w hw d q
      have := (times_parts h0.a hl hf hw).1
      omega
    · exact hPd.2 (by omega)
  · -- what is left
    have e1 : (rowF (d + 1) fun e => wantOn vs w.nm e + takeP ws (fun x d => (fun x d => if d < n0 then P x d else 0) x d + X x d) n1 w.nm e).sum =
        (rowF (d + 1) fun e => wantOn us w.nm e + takeP ws P n0 w.nm e).sum + (rowF (d + 1) fun e => E w.nm e + takeP ws X n1 w.nm e).sum := by
      rw [← rowF_sum_add]
      refine rowF_le_congr fun e _ => ?_
      rw [takeP_add, hE, takeP_congr (P := fun x d => if d < n0 then P x d else 0) (Q := P) (m := n0) fun v hv _ => hQ v hv e]
      omega
    have e2 : (rowF (d + 1) fun e => (fun x d => if d < n0 then P x d else 0) w.nm e + X w.nm e).sum = (rowF (d + 1) fun e => if e < n0 then P w.nm e else 0).sum + (rowF (d + 1) (X w.nm)).sum := rowF_sum_add _ _ _
    have e3 : (rowF (d + 1) fun e => E w.nm e + takeP ws X n1 w.nm e).sum ≤ w.gives * (rowF (d + 1) (X w.nm)).sum := by
      have := rowF_nn (n := d + 1) (f := fun e => w.gives * X w.nm e + (-1) * (E w.nm e + takeP ws X n1 w.nm e)) fun e _ => by
        have := xk w hw e
        have e9 : takeP (Shop.mk ws us).ws X n1 w.nm e = takeP ws X n1 w.nm e := rfl
        omega
      rw [rowF_sum_add, rowF_sum_mul, rowF_sum_mul] at this
      omega
    show w.floor ≤ (rowF (d + 1) (hadF w)).sum - (rowF (d + 1) fun e => wantOn vs w.nm e + takeP ws (fun x d => (fun x d => if d < n0 then P x d else 0) x d + X x d) n1 w.nm e).sum + w.gives * (rowF (d + 1) fun e => (fun x d => if d < n0 then P x d else 0) w.nm e + X w.nm e).sum
    rw [e1, e2, Int.mul_add]
    by_cases q : d < n0
    · have h3 := (hP w hw d q).2.2
      have e4 : (rowF (d + 1) fun e => if e < n0 then P w.nm e else 0).sum = (rowF (d + 1) (P w.nm)).sum := rowF_le_congr fun e he => if_pos (by omega)
      have h3' : w.floor ≤ (rowF (d + 1) (hadF w)).sum - (rowF (d + 1) fun e => wantOn us w.nm e + takeP ws P n0 w.nm e).sum + w.gives * (rowF (d + 1) (P w.nm)).sum := h3
      rw [e4]
      omega
    · have hz : n0 - 1 + 1 = n0 := by omega
      have h3 := (hP w hw (n0 - 1) (by omega)).2.2
      rw [hz] at h3
      have h3' : w.floor ≤ (rowF n0 (hadF w)).sum - (rowF n0 fun e => wantOn us w.nm e + takeP ws P n0 w.nm e).sum + w.gives * (rowF n0 (P w.nm)).sum := h3
      have e4 : (rowF (d + 1) fun e => if e < n0 then P w.nm e else 0).sum = (rowF n0 fun e => if e < n0 then P w.nm e else 0).sum := rowF_stop (by omega) fun e h1 _ => if_neg (by omega)
      have e5 : (rowF n0 fun e => if e < n0 then P w.nm e else 0).sum = (rowF n0 (P w.nm)).sum := rowF_le_congr fun e he => if_pos he
      have e6 : (rowF (d + 1) fun e => wantOn us w.nm e + takeP ws P n0 w.nm e).sum = (rowF n0 fun e => wantOn us w.nm e + takeP ws P n0 w.nm e).sum := rowF_stop (by omega) fun e h1 _ => by
        have k1 : wantOn us w.nm e = 0 := by
          unfold wantOn
          rw [List.filter_eq_nil_iff.mpr fun v hv => by
            have := h0.dn.up v hv
            simp only [decide_eq_true_eq]
            rintro ⟨_, z⟩
            omega]
          rfl
        have k2 : takeP ws P n0 w.nm e = 0 := by
          unfold takeP
          have : (ws.map fun v => partSum v.parts w.nm * begP P n0 v e) = ws.map fun _ => (0 : Int) := List.map_congr_left fun v _ => by
            unfold begP
            rw [if_neg (by omega), Int.mul_zero]
          rw [this, List.map_const', List.sum_replicate_int]
          simp
        rw [k1, k2]
        rfl
      have e7 := rowF_mono (n := n0) (m := d + 1) (f := hadF w) (fun e _ => hadF_pos hgw e) (by omega)
      rw [e4, e5, e6]
      omega
/-! ### a day ahead of the time: what may be needed by it is bounded -/
theorem comes_sum {w : Ware} (h : WareG w) (n : Nat) : (rowF n (hadF w)).sum ≤ 13 * 10 ^ 42 := by
  have key : ∀ (com : List (Int × Int)), (∀ p ∈ com, 0 ≤ p.1 ∧ 0 ≤ p.2 ∧ p.2 ≤ 10 ^ 42) → (rowF n (comesOn com)).sum ≤ com.length * 10 ^ 42 := fun com => by
    induction com with
    | nil =>
      intro _
      rw [show rowF n (comesOn []) = rowF n (fun d => 0 * (0 : Int)) from rowF_congr fun d _ => by rfl, rowF_sum_mul]
      simp
    | cons p r ih =>
      intro hc
      have ih := ih fun q hq => hc q (List.mem_cons_of_mem _ hq)
      obtain ⟨h1, h2, h3⟩ := hc p List.mem_cons_self
      have e : rowF n (comesOn (p :: r)) = rowF n fun d => (if d = p.1.toNat then p.2 else 0) + comesOn r d := rowF_congr fun d _ => by
        unfold comesOn
        rw [List.filter_cons]
        by_cases q : p.1 = (d : Int)
        · rw [if_pos (by simpa using q), List.map_cons, List.sum_cons, if_pos (by omega)]
        · rw [if_neg (by simpa using q), if_neg (by omega), Int.zero_add]
      have hone := rowF_sum_one n p.1.toNat p.2 h2
      rw [e, rowF_sum_add, List.length_cons]
      have e2 : ((r.length + 1 : Nat) : Int) * 10 ^ 42 = r.length * 10 ^ 42 + 10 ^ 42 := by
        rw [Int.natCast_add, Int.add_mul]
        simp
      rw [e2]
      omega
  have h1 := key w.com fun p hp => by
    have := h.com p hp
    exact ⟨this.1.1, this.2.1, Int.le_of_lt this.2.2⟩
  have h2 := h.cl
  have h3 : (rowF n (hadF w)).sum = (rowF n fun d => if d = 0 then w.stock else 0).sum + (rowF n (comesOn w.com)).sum := rowF_sum_add n _ _
  have h4 := rowF_sum_one n 0 w.stock h.stock.1
  have h5 := h.stock.2
  have h6 : (w.com.length : Int) * 10 ^ 42 ≤ 12 * 10 ^ 42 := Int.mul_le_mul_of_nonneg_right (by omega) (by decide)
  omega
theorem bigB_step (k : Nat) : 13 * 10 ^ 42 + 10 ^ 42 * (10 : Int) ^ (44 * (k + 1)) ≤ 10 ^ (44 * (k + 1 + 1)) := by
  have e : (10 : Int) ^ (44 * (k + 1 + 1)) = 10 ^ 44 * 10 ^ (44 * (k + 1)) := by
    rw [show 44 * (k + 1 + 1) = 44 + 44 * (k + 1) by omega, Int.pow_add]
  have h1 : (1 : Int) ≤ 10 ^ (44 * (k + 1)) := Int.pow_pos (n := (10 : Int)) (m := 44 * (k + 1)) (by decide)
  rw [e]
  generalize (10 : Int) ^ (44 * (k + 1)) = z at h1
  have : (10 : Int) ^ 44 * z = 10 ^ 42 * z + 99 * 10 ^ 42 * z := by
    rw [← Int.add_mul]
    congr 1
  rw [this]
  have h2 : 99 * 10 ^ 42 * 1 ≤ 99 * (10 : Int) ^ 42 * z := Int.mul_le_mul_of_nonneg_left h1 (by decide)
  omega
theorem low_bound {s : Shop} {n : Nat} (h : PlanIn s n) (hp : Has s n) {f : Str → Int} (hf : TimesTo s s.names f) : ∀ (k i : Nat) (w : Ware), w ∈ s.ws → (workedOf s)[i]? = some w.nm → (workedOf s).length ≤ i + 1 + k → ∀ d : Nat, d < n → (d : Int) < f w.nm → (rowF (d + 1) (needF s (leastPlan s n) w.nm)).sum ≤ 10 ^ (44 * (k + 1)) := fun k => by
  have hl : ∀ v ∈ s.ws, 0 ≤ v.lag := fun v hv => (h.ws v hv).lag.1
  have base : ∀ (w : Ware), w ∈ s.ws → ∀ d : Nat, d < n → (rowF (d + 1) (needF s (leastPlan s n) w.nm)).sum ≤ 13 * 10 ^ 42 + w.gives * ((rowOf s n w.nm).take (d + 1)).sum := fun w hw d hd => by
    have hwg := h.ws w hw
    have er := rowP_least (n := n) h.a.ok.nd hw
    have hlen := rowOf_len (n := n) h.a hw
    have hla := (least_at h hw d hd).1
    rw [stockP_left (by rw [er]; exact hlen) hd, er] at hla
    unfold leftAt at hla
    rw [rowF_take (by omega), rowF_take (by omega), Int.mul_comm] at hla
    have h1 := comes_sum hwg (d + 1)
    have h2 := hwg.floor.1
    omega
  have none_early : ∀ (w : Ware), w ∈ s.ws → ∀ k : Nat, (k : Int) ≤ w.lag → ((rowOf s n w.nm).take k).sum = 0 := fun w hw k hk => no_early_sum (rowOf_nn h.a hw) (lag := w.lag) (fun d hd hl z => hp w hw d _ ⟨by rw [List.getD_eq_getElem?_getD, List.getElem?_eq_getElem hd]; rfl, z, hl⟩) k hk
  have part : ∀ (w : Ware), w ∈ s.ws → ∀ d : Nat, (d : Int) < f w.nm → (d : Int) < w.lag ∨ ∃ p ∈ w.parts, (d : Int) - w.lag < f p.1 := fun w hw d hd => by
    obtain ⟨m, h1, h2⟩ := hf w hw (List.mem_map_of_mem (f := fun w : Ware => w.nm) hw)
    rcases h1 with ⟨e, h1⟩ | ⟨h1, _⟩
    · exact .inl (by omega)
    · obtain ⟨p, hp', e⟩ := List.mem_map.mp h1
      exact .inr ⟨p, hp', by omega⟩
  induction k with
  | zero =>
    intro i w hw hi hk d hd hdf
    have hb := base w hw d hd
    rcases part w hw d hdf with q | ⟨p, hp', q⟩
    · rw [none_early w hw (d + 1) (by omega)] at hb
      have : (10 : Int) ^ (44 * (0 + 1)) = 100 * 10 ^ 42 := by decide
      omega
    · obtain ⟨j, hj, hj2⟩ := parts_behind h.a hw hi hp'
      have := lt_of_get hj2
      omega
  | succ k ih =>
    intro i w hw hi hk d hd hdf
    have hb := base w hw d hd
    have hwg := h.ws w hw
    have hst := bigB_step k
    rcases part w hw d hdf with q | ⟨p, hp', q⟩
    · rw [none_early w hw (d + 1) (by omega)] at hb
      have : (0 : Int) ≤ 10 ^ 42 * 10 ^ (44 * (k + 1)) := Int.mul_nonneg (by decide) (Int.le_of_lt (Int.pow_pos (by decide)))
      omega
    · by_cases qd : (d : Int) < w.lag
      · rw [none_early w hw (d + 1) (by omega)] at hb
        have : (0 : Int) ≤ 10 ^ 42 * 10 ^ (44 * (k + 1)) := Int.mul_nonneg (by decide) (Int.le_of_lt (Int.pow_pos (by decide)))
        omega
      · obtain ⟨j, hj, hj2⟩ := parts_behind h.a hw hi hp'
        obtain ⟨v, hv, ev⟩ := ware_named (h.a.ok.sub w hw p hp')
        rw [← ev] at hj2
        have hlag := hwg.lag.1
        obtain ⟨e, he⟩ : ∃ e : Nat, e = d - w.lag.toNat := ⟨_, rfl⟩
        have h1 := ih j v hv hj2 (by omega) e (by omega) (by rw [ev]; omega)
        have er := rowP_least (n := n) h.a.ok.nd hw
        have hlen := rowOf_len (n := n) h.a hw
        have h2 := begunOn_sum (pl := leastPlan s n) hlag (by rw [er]; exact hlen) (show e + 1 ≤ n by omega)
        rw [er, none_early w hw w.lag.toNat (by omega), show w.lag.toNat + (e + 1) = d + 1 by omega] at h2
        have hbn : ∀ u ∈ s.ws, ∀ g : Nat, g < n → 0 ≤ begunOn (leastPlan s n) u g := fun u hu g hg => by
          rw [begunOn_fn (hl u hu) (by rw [rowP_least h.a.ok.nd hu]; exact rowOf_len h.a hu) hg]
          split
          · rw [rowP_least h.a.ok.nd hu, List.getD_eq_getElem?_getD, List.getElem?_eq_getElem (by rw [rowOf_len h.a hu]; assumption)]
            exact rowOf_nn h.a hu _ (List.getElem_mem _)
          · exact Int.le_refl 0
        have h3 : (rowF (e + 1) (begunOn (leastPlan s n) w)).sum ≤ (rowF (e + 1) (needF s (leastPlan s n) v.nm)).sum := by
          have := rowF_nn (n := e + 1) (f := fun g => needF s (leastPlan s n) v.nm g + (-1) * begunOn (leastPlan s n) w g) fun g hg => by
            unfold needF takeOn
            have k1 : 0 ≤ wantOn s.wants v.nm g := sum_nn fun x hx => by
              obtain ⟨u, hu, rfl⟩ := List.mem_map.mp hx
              exact (h.w u (List.mem_filter.mp hu).1).2.1
            have k2 := mem_le_sum (l := s.ws.map fun u => takeParts (leastPlan s n) u u.parts v.nm g) (fun x hx => by
              obtain ⟨u, hu, rfl⟩ := List.mem_map.mp hx
              rw [takeParts_eq]
              exact Int.mul_nonneg (partSum_le (h.ws u hu) v.nm).1 (hbn u hu g (by omega))) _ (List.mem_map_of_mem (f := fun u => takeParts (leastPlan s n) u u.parts v.nm g) hw)
            rw [takeParts_eq] at k2
            have k3 : 1 ≤ partSum w.parts v.nm := by
              rcases amounts_of (nm := v.nm) hwg.pn with ⟨a, _, k3, q', hq', _, k4⟩ | ⟨k3, _⟩
              · have := (hwg.parts q' hq').1
                omega
              · have : p.2 ∈ (w.parts.filterMap fun p => if p.1 = v.nm then some p.2 else none) := List.mem_filterMap.mpr ⟨p, hp', if_pos ev.symm⟩
                rw [k3] at this
                cases this
            have k4 := hbn w hw g (by omega)
            have k5 : 1 * begunOn (leastPlan s n) w g ≤ partSum w.parts v.nm * begunOn (leastPlan s n) w g := Int.mul_le_mul_of_nonneg_right k3 k4
            omega
          rw [rowF_sum_add, rowF_sum_mul] at this
          omega
        have h4 : ((rowOf s n w.nm).take (d + 1)).sum ≤ 10 ^ (44 * (k + 1)) := by omega
        have h5 : w.gives * ((rowOf s n w.nm).take (d + 1)).sum ≤ 10 ^ 42 * 10 ^ (44 * (k + 1)) := by
          have z0 := sum_nn (l := (rowOf s n w.nm).take (d + 1)) fun x hx => rowOf_nn h.a hw x (List.mem_of_mem_take hx)
          have a := Int.mul_le_mul_of_nonneg_right (Int.le_of_lt hwg.gives.2) z0
          have b := Int.mul_le_mul_of_nonneg_left h4 (show (0 : Int) ≤ 10 ^ 42 by decide)
          omega
        omega
/-- A WANT AHEAD OF THE TIME: no plan where it is great -/
theorem want_bound {s : Shop} {n : Nat} (h : PlanIn s n) (hp : Has s n) {f : Str → Int} (hf : TimesTo s s.names f) {k : Nat} (hk : s.ws.length ≤ k + 1) {v : Want} (hv : v ∈ s.wants) (hvn : v.1 ∈ s.names) (ht : v.2.1 < f v.1) : v.2.2 ≤ 10 ^ (44 * (k + 1)) := by
  obtain ⟨w, hw, e⟩ := ware_named hvn
  obtain ⟨i, hi⟩ := List.getElem?_of_mem (workedOf_mem.mpr (List.mem_map_of_mem (f := fun w : Ware => w.nm) hw))
  have hup := h.dn.up v hv
  have h0 := (h.w v hv).1.1
  obtain ⟨d, hd⟩ : ∃ d : Nat, (d : Int) = v.2.1 := ⟨v.2.1.toNat, by omega⟩
  have h1 := low_bound h hp hf k i w hw hi (by rw [worked_len]; omega) d (by omega) (by rw [e]; omega)
  have hl : ∀ v ∈ s.ws, 0 ≤ v.lag := fun v hv => (h.ws v hv).lag.1
  have hbn : ∀ u ∈ s.ws, ∀ g : Nat, g < n → 0 ≤ begunOn (leastPlan s n) u g := fun u hu g hg => by
    rw [begunOn_fn (hl u hu) (by rw [rowP_least h.a.ok.nd hu]; exact rowOf_len h.a hu) hg]
    split
    · rw [rowP_least h.a.ok.nd hu, List.getD_eq_getElem?_getD, List.getElem?_eq_getElem (by rw [rowOf_len h.a hu]; assumption)]
      exact rowOf_nn h.a hu _ (List.getElem_mem _)
    · exact Int.le_refl 0
  have wn : ∀ g, ∀ x ∈ (s.wants.filter fun w' => decide (w'.1 = w.nm ∧ w'.2.1 = ((g : Nat) : Int))).map fun w => w.2.2, 0 ≤ x := fun g x hx => by
    obtain ⟨u, hu, rfl⟩ := List.mem_map.mp hx
    exact (h.w u (List.mem_filter.mp hu).1).2.1
  have tn : ∀ g : Nat, g < n → 0 ≤ takeOn (leastPlan s n) s.ws w.nm g := fun g hg => sum_nn fun x hx => by
    obtain ⟨u, hu, rfl⟩ := List.mem_map.mp hx
    rw [takeParts_eq]
    exact Int.mul_nonneg (partSum_le (h.ws u hu) w.nm).1 (hbn u hu g hg)
  have h2 : v.2.2 ≤ needF s (leastPlan s n) w.nm d := by
    have k1 := mem_le_sum (wn d) v.2.2 (List.mem_map_of_mem (f := fun w : Want => w.2.2) (List.mem_filter.mpr ⟨hv, by simp only [decide_eq_true_eq]; exact ⟨e.symm, hd.symm⟩⟩))
    have k2 := tn d (by omega)
    unfold needF wantOn
    omega
  have h3 := mem_le_sum (l := rowF (d + 1) (needF s (leastPlan s n) w.nm)) (fun x hx => by
    obtain ⟨g, hg, rfl⟩ := List.mem_map.mp hx
    have k1 := sum_nn (wn g)
    have k2 := tn g (by have := List.mem_range.mp hg; omega)
    unfold needF wantOn
    omega) _ (List.mem_map.mpr ⟨d, List.mem_range.mpr (by omega), rfl⟩)
  omega
/-! ### put off -/
structure LateIn (s : Shop) (T : Nat) : Prop where
  a : ShopA s
  ws : ∀ w ∈ s.ws, WareG w
  hi : s.ws.length ≤ 12
  wl : s.wants.length ≤ 30
  w : ∀ v ∈ s.wants, v.1 ∈ s.names ∧ (0 ≤ v.2.1 ∧ v.2.1 ≤ 400) ∧ 0 ≤ v.2.2 ∧ v.2.2 < 2 ^ 1000
  t : ∃ f, TimesTo s s.names f ∧ ∀ x ∈ s.names, f x ≤ T
  T : T ≤ 500
theorem shopA_like {ws : List Ware} {us vs : List Want} (h : ShopA ⟨ws, us⟩) (hl : vs.length ≤ 1000) : ShopA ⟨ws, vs⟩ := ⟨⟨h.ok.nd, h.ok.sub, h.ok.n, h.ok.p, h.ok.c, hl⟩, h.ac⟩
theorem LateIn.none {s : Shop} {T : Nat} (h : LateIn s T) : PlanIn ⟨s.ws, []⟩ 1 := ⟨shopA_like h.a (by simp), h.ws, h.hi, ⟨Int.le_refl 1, fun v hv => (by cases hv), .inl rfl⟩, by simp, fun v hv => (by cases hv)⟩
theorem LateIn.off {s : Shop} {T : Nat} (h : LateIn s T) {k : Int} (hk0 : 0 ≤ k) (hk : k ≤ T) {n : Nat} (hn : DaysOf (putOff s k) n) : PlanIn (putOff s k) n := ⟨shopA_like h.a (by rw [List.length_map]; have := h.wl; omega), h.ws, h.hi, hn, by show (s.wants.map _).length ≤ 30; rw [List.length_map]; exact h.wl, fun v hv => by
  obtain ⟨u, hu, rfl⟩ := List.mem_map.mp hv
  obtain ⟨_, h1, h2⟩ := h.w u hu
  have := h.T
  refine ⟨⟨?_, ?_⟩, h2⟩
  · show 0 ≤ u.2.1 + k
    omega
  · show u.2.1 + k ≤ 900
    omega⟩
theorem LateIn.days {s : Shop} {T : Nat} (h : LateIn s T) {k : Int} (hk0 : 0 ≤ k) : ∃ n : Nat, DaysOf (putOff s k) n := days_ex _ fun v hv => by
  obtain ⟨u, hu, rfl⟩ := List.mem_map.mp hv
  obtain ⟨_, h1, h2⟩ := h.w u hu
  show 0 ≤ u.2.1 + k
  omega
theorem wantOn_none (nm : Str) (d : Nat) : wantOn [] nm d = 0 := rfl
theorem wantOn_nn {vs : List Want} (h : ∀ v ∈ vs, 0 ≤ v.2.2) (nm : Str) (d : Nat) : 0 ≤ wantOn vs nm d := sum_nn fun x hx => by
  obtain ⟨u, hu, rfl⟩ := List.mem_map.mp hx
  exact h u (List.mem_filter.mp hu).1
theorem wantOn_pos {vs : List Want} {nm : Str} {d : Nat} (h : 0 < wantOn vs nm d) : ∃ v ∈ vs, v.1 = nm ∧ v.2.1 = (d : Int) := by
  cases e : vs.filter fun w => decide (w.1 = nm ∧ w.2.1 = (d : Int)) with
  | nil =>
    unfold wantOn at h
    rw [e] at h
    exact absurd h (by simp)
  | cons v r =>
    have hm : v ∈ vs.filter fun w => decide (w.1 = nm ∧ w.2.1 = (d : Int)) := by rw [e]; exact List.mem_cons_self
    obtain ⟨h1, h2⟩ := List.mem_filter.mp hm
    exact ⟨v, h1, of_decide_eq_true h2⟩
/-- PUT OFF BY THE GREATEST TIME a plan is told, where one is without wants -/
theorem late_has {s : Shop} {T : Nat} (h : LateIn s T) (hp : Has ⟨s.ws, []⟩ 1) {n : Nat} (hn : DaysOf (putOff s T) n) : Has (putOff s T) n := by
  obtain ⟨f, hf, hT⟩ := h.t
  have hin := h.off (Int.natCast_nonneg T) (Int.le_refl _) hn
  refine more_plan (ws := s.ws) (us := []) (vs := (putOff s T).wants) h.none hin (f := f) hf (by have := hn.one; omega) (E := wantOn (putOff s T).wants) (fun x d => by rw [wantOn_none]; omega) (wantOn_nn fun v hv => (hin.w v hv).2.1) (fun x d hx => ?_) hp
  obtain ⟨v, hv, e1, e2⟩ := wantOn_pos hx
  obtain ⟨u, hu, rfl⟩ := List.mem_map.mp hv
  obtain ⟨hn, h1, h2⟩ := h.w u hu
  have e1' : u.1 = x := e1
  have e2' : u.2.1 + T = d := e2
  have := hT u.1 hn
  rw [e1'] at this
  omega
/-! ### one more want -/
theorem days_amt {s : Shop} {nm : Str} {day a b : Int} {n : Nat} (h : DaysOf ⟨s.ws, s.wants ++ [(nm, day, a)]⟩ n) : DaysOf ⟨s.ws, s.wants ++ [(nm, day, b)]⟩ n := by
  refine ⟨h.one, fun v hv => ?_, ?_⟩
  · rcases List.mem_append.mp hv with hv | hv
    · exact h.up v (List.mem_append_left _ hv)
    · cases List.mem_singleton.mp hv
      exact h.up (nm, day, a) (List.mem_append_right _ (List.mem_singleton.mpr rfl))
  · rcases h.is with e | ⟨v, hv, e⟩
    · exact .inl e
    · rcases List.mem_append.mp hv with hv | hv
      · exact .inr ⟨v, List.mem_append_left _ hv, e⟩
      · cases List.mem_singleton.mp hv
        exact .inr ⟨(nm, day, b), List.mem_append_right _ (List.mem_singleton.mpr rfl), e⟩
structure MostIn (s : Shop) (n n1 : Nat) (nm : Str) (day : Int) : Prop where
  p : PlanIn s n
  wl : s.wants.length ≤ 29
  m : s.ws.length ≤ 6
  mem : nm ∈ s.names
  dy : 0 ≤ day ∧ day ≤ 900
  dn : DaysOf ⟨s.ws, s.wants ++ [(nm, day, 0)]⟩ n1
abbrev HasW (s : Shop) (n1 : Nat) (nm : Str) (day a : Int) : Prop := Has ⟨s.ws, s.wants ++ [(nm, day, a)]⟩ n1
theorem MostIn.more {s : Shop} {n n1 : Nat} {nm : Str} {day a : Int} (h : MostIn s n n1 nm day) (h0 : 0 ≤ a) (h1 : a < 2 ^ 1000) : PlanIn ⟨s.ws, s.wants ++ [(nm, day, a)]⟩ n1 := by
  have hl : (s.wants ++ [(nm, day, a)]).length ≤ 30 := by rw [List.length_append]; have := h.wl; show _ + 1 ≤ 30; omega
  refine ⟨shopA_like h.p.a (by omega), h.p.ws, h.p.hi, days_amt h.dn, hl, fun v hv => ?_⟩
  rcases List.mem_append.mp hv with hv | hv
  · exact h.p.w v hv
  · cases List.mem_singleton.mp hv
    exact ⟨h.dy, h0, h1⟩
theorem MostIn.le {s : Shop} {n n1 : Nat} {nm : Str} {day : Int} (h : MostIn s n n1 nm day) : n ≤ n1 := by
  rcases h.p.dn.is with e | ⟨v, hv, e⟩
  · have := h.dn.one
    omega
  · have := h.dn.up v (List.mem_append_left _ hv)
    omega
/-- the day is not ahead of the time, or nothing is wanted: a plan again -/
theorem MostIn.any {s : Shop} {n n1 : Nat} {nm : Str} {day a : Int} (h : MostIn s n n1 nm day) (hp : Has s n) {f : Str → Int} (hf : TimesTo s s.names f) (h0 : 0 ≤ a) (h1 : a < 2 ^ 1000) (ht : f nm ≤ day ∨ a = 0) : HasW s n1 nm day a :=
  more_plan (ws := s.ws) (us := s.wants) (vs := s.wants ++ [(nm, day, a)]) h.p (h.more h0 h1) (f := f) hf h.le (E := fun x d => if nm = x ∧ day = (d : Int) then a else 0) (fun x d => wantOn_snoc _ _ _ _) (fun x d => by split <;> omega) (fun x d hx => by
    split at hx
    · rename_i e
      rcases ht with ht | ht
      · rw [← e.1]
        omega
      · omega
    · omega) hp
abbrev topB : Int := 10 ^ 264
theorem MostIn.top {s : Shop} {n n1 : Nat} {nm : Str} {day a : Int} (h : MostIn s n n1 nm day) {f : Str → Int} (hf : TimesTo s s.names f) (ht : day < f nm) (h0 : 0 ≤ a) (h1 : a < 2 ^ 1000) (hp : HasW s n1 nm day a) : a ≤ topB :=
  want_bound (h.more h0 h1) hp (f := f) hf (k := 5) (by have := h.m; show s.ws.length ≤ 6; omega) (v := (nm, day, a)) (List.mem_append_right _ (List.mem_singleton.mpr rfl)) h.mem ht
theorem times_le {s : Shop} (hA : ShopA s) {L : Int} (h0 : 0 ≤ L) (hl : ∀ w ∈ s.ws, w.lag ≤ L) {f : Str → Int} (hf : TimesTo s s.names f) : ∀ x ∈ s.names, f x ≤ L * s.ws.length := by
  have key : ∀ (k i : Nat) (w : Ware), w ∈ s.ws → (workedOf s)[i]? = some w.nm → (workedOf s).length ≤ i + k → f w.nm ≤ L * k := fun k => by
    induction k with
    | zero =>
      intro i w hw hi hk
      have := lt_of_get hi
      omega
    | succ k ih =>
      intro i w hw hi hk
      obtain ⟨m, h1, h2⟩ := hf w hw (List.mem_map_of_mem (f := fun w : Ware => w.nm) hw)
      have hlw := hl w hw
      have e : L * ((k + 1 : Nat) : Int) = L * k + L := by rw [Int.natCast_add, Int.mul_add]; simp
      have hk0 : 0 ≤ L * k := Int.mul_nonneg h0 (Int.natCast_nonneg k)
      rw [e]
      rcases h1 with ⟨_, rfl⟩ | ⟨h1, _⟩
      · omega
      · obtain ⟨p, hp, ep⟩ := List.mem_map.mp h1
        obtain ⟨j, hj, hj2⟩ := parts_behind hA hw hi hp
        obtain ⟨v, hv, ev⟩ := ware_named (hA.ok.sub w hw p hp)
        rw [← ev] at hj2
        have := ih j v hv hj2 (by omega)
        rw [ev, ep] at this
        omega
  intro x hx
  obtain ⟨w, hw, rfl⟩ := ware_named hx
  obtain ⟨i, hi⟩ := List.getElem?_of_mem (workedOf_mem.mpr hx)
  exact key s.ws.length i w hw hi (by rw [worked_len]; omega)
theorem ShopG.late {s : Shop} (g : ShopG s) (ac : Acyclic (partsOf s)) : LateIn s 360 := by
  have hA := g.a ac
  obtain ⟨f, hf⟩ := times_ex hA
  refine ⟨hA, g.ws, g.hi, by have := g.wants.len; omega, fun v hv => ?_, ⟨f, hf, fun x hx => ?_⟩, by decide⟩
  · obtain ⟨h1, h2, h3⟩ := g.wants.ok v hv
    exact ⟨h1, h2, h3.1, Int.lt_trans h3.2 (by decide)⟩
  · have h1 := times_le hA (L := 30) (by decide) (fun w hw => (g.ws w hw).lag.2) hf x hx
    have := g.hi
    omega
end N

--@uses late
namespace N
open PySem L2 VL
/-! ### two shops beside one another -/
theorem rowF_succ' (n : Nat) (f : Nat → Int) : rowF (n + 1) f = rowF n f ++ [f n] := by
  unfold rowF
  rw [List.range_succ, List.map_append]
  rfl
theorem soFar_app1 (l : List Int) (x : Int) : soFar 0 (l ++ [x]) = soFar 0 l ++ [(l ++ [x]).sum] := by
  rw [soFar_app, List.sum_append]
  congr 2
  simp
/-- one more day on which nothing goes -/
theorem least_more {a b : List Int} {p q g f x : Int} (hg : 0 < g) (hl : a.length = b.length) (hx : 0 ≤ x) : leastLots (a ++ [p] ++ [x]) (b ++ [q] ++ [0]) g f = leastLots (a ++ [p]) (b ++ [q]) g f ++ [0] := by
  unfold leastLots
  have h1 : (soFar 0 a).length = (soFar 0 b).length := by rw [soFar_len, soFar_len, hl]
  have h2 : (soFar 0 (a ++ [p])).length = (soFar 0 (b ++ [q])).length := by rw [soFar_len, soFar_len, List.length_append, List.length_append, hl]; rfl
  rw [soFar_app1 (a ++ [p]), soFar_app1 (b ++ [q]), List.zip_append h2]
  show llGo g f 0 (_ ++ [((a ++ [p] ++ [x]).sum, (b ++ [q] ++ [0]).sum)]) = _
  rw [llGo_app]
  congr 2
  rw [soFar_app1 a, soFar_app1 b, List.zip_append h1]
  show max (llAt g f 0 (_ ++ [((a ++ [p]).sum, (b ++ [q]).sum)])) _ - llAt g f 0 (_ ++ [((a ++ [p]).sum, (b ++ [q]).sum)]) = 0
  rw [llAt_app]
  have e1 : (a ++ [p] ++ [x]).sum = (a ++ [p]).sum + x := by rw [List.sum_append]; simp
  have e2 : (b ++ [q] ++ [0]).sum = (b ++ [q]).sum := by rw [List.sum_append]; simp
  rw [e1, e2]
  have e3 : ((a ++ [p]).sum - (b ++ [q]).sum - f) / g ≤ ((a ++ [p]).sum + x - (b ++ [q]).sum - f) / g := Int.ediv_le_ediv hg (by omega)
  omega
theorem least_pad {h k : Nat → Int} {g f : Int} (hg : 0 < g) {m : Nat} (h1 : 1 ≤ m) (hh : ∀ d, m ≤ d → 0 ≤ h d) (hk : ∀ d, m ≤ d → k d = 0) : ∀ j, leastLots (rowF (m + j) h) (rowF (m + j) k) g f = leastLots (rowF m h) (rowF m k) g f ++ List.replicate j 0
  | 0 => by simp
  | j + 1 => by
    obtain ⟨i, hi⟩ : ∃ i, m + j = i + 1 := ⟨m + j - 1, by omega⟩
    rw [List.replicate_succ', ← List.append_assoc, ← least_pad hg h1 hh hk j, ← Nat.add_assoc, rowF_succ' (m + j), rowF_succ' (m + j), hk (m + j) (by omega), hi, rowF_succ' i, rowF_succ' i]
    exact least_more hg (by rw [rowF_len, rowF_len]) (hh (i + 1) (by omega))
theorem getD_pad (row : List Int) (j k : Nat) : (row ++ List.replicate j 0).getD k 0 = row.getD k 0 := by
  rw [List.getD_eq_getElem?_getD, List.getD_eq_getElem?_getD, List.getElem?_append]
  split
  · rfl
  · rw [List.getElem?_eq_none (show row.length ≤ k by omega), List.getElem?_replicate]
    split <;> rfl
theorem begun_at (lag : Int) (row : List Int) (d : Nat) : (begunRow lag row).getD d 0 = row.getD (lag.toNat + d) 0 := by
  unfold begunRow
  rw [getD_pad, List.getD_eq_getElem?_getD, List.getD_eq_getElem?_getD, List.getElem?_drop]
/-- what is needed hangs on the lots of each day alone -/
theorem need_rows {s : Shop} {l m : List Str} {r q : Str → List Int} (hl : ∀ x ∈ s.names, x ∈ l) (hm : ∀ x ∈ s.names, x ∈ m) (h : ∀ x ∈ s.names, ∀ k, (r x).getD k 0 = (q x).getD k 0) (nm : Str) (d : Nat) : needF s (fnS l r) nm d = needF s (fnS m q) nm d := by
  unfold needF
  congr 1
  refine takeOn_congr fun v hv => ?_
  have hn : v.nm ∈ s.names := List.mem_map_of_mem (f := fun w : Ware => w.nm) hv
  unfold begunOn
  rw [getS_fn (hl _ hn), getS_fn (hm _ hn)]
  show _ * (begunRow v.lag (r v.nm)).getD d 0 = _ * (begunRow v.lag (q v.nm)).getD d 0
  rw [begun_at, begun_at, h _ hn]
theorem wantOn_late {s : Shop} {m : Nat} (h : DaysOf s m) (nm : Str) {d : Nat} (hd : m ≤ d) : wantOn s.wants nm d = 0 := by
  unfold wantOn
  rw [List.filter_eq_nil_iff.mpr fun w hw => ?_]
  · rfl
  · have := h.up w hw
    simp only [decide_eq_true_eq, not_and]
    intro _
    omega
theorem comes_nn {w : Ware} (h : WareG w) (d : Nat) : 0 ≤ hadF w d := hadF_nn h (d + 1) _ (List.mem_map.mpr ⟨d, List.mem_range.mpr (Nat.lt_succ_self d), rfl⟩)
/-- more days: the same lots, nought behind them -/
theorem row_pad {s : Shop} {m n : Nat} (h : PlanIn s m) (hmn : m ≤ n) : ∀ x ∈ s.names, rowOf s n x = rowOf s m x ++ List.replicate (n - m) 0 := by
  have nd := h.a.ok.nd
  have hm1 : 1 ≤ m := by
    have := h.dn.one
    omega
  refine rows_uniq h.a (n := n) (r := rowOf s n) (q := fun x => rowOf s m x ++ List.replicate (n - m) 0) (l := workedOf s) (m := workedOf s) (fun x hx => workedOf_mem.mpr hx) (fun x hx => workedOf_mem.mpr hx) (fun w hw => ?_) fun w hw => ?_
  · have := rowOf_eq h.a (n := n) hw
    rw [plan_fn nd] at this
    exact this
  · have e := rowOf_eq h.a (n := m) hw
    rw [plan_fn nd] at e
    have hnd : ∀ d, needF s (fnS (workedOf s) fun x => rowOf s m x ++ List.replicate (n - m) 0) w.nm d = needF s (fnS (workedOf s) (rowOf s m)) w.nm d := fun d =>
      need_rows (fun x hx => workedOf_mem.mpr hx) (fun x hx => workedOf_mem.mpr hx) (fun x _ k => getD_pad _ _ k) w.nm d
    rw [rowF_congr (n := n) fun d _ => hnd d]
    obtain ⟨j, rfl⟩ : ∃ j, n = m + j := ⟨n - m, by omega⟩
    rw [least_pad (by have := (h.ws w hw).gives.1; omega) hm1 (fun d _ => comes_nn (h.ws w hw) d) (fun d hd => ?_) j, ← e, show m + j - m = j by omega]
    unfold needF
    rw [wantOn_late h.dn w.nm hd]
    have : takeOn (fnS (workedOf s) (rowOf s m)) s.ws w.nm d = 0 := by
      unfold takeOn
      have : (s.ws.map fun v => takeParts (fnS (workedOf s) (rowOf s m)) v v.parts w.nm d) = s.ws.map fun _ => (0 : Int) := List.map_congr_left fun v hv => by
        have hn : v.nm ∈ s.names := List.mem_map_of_mem (f := fun w : Ware => w.nm) hv
        rw [takeParts_eq]
        unfold begunOn
        rw [getS_fn (workedOf_mem.mpr hn)]
        show _ * (begunRow v.lag (rowOf s m v.nm)).getD d 0 = 0
        rw [begun_at, List.getD_eq_getElem?_getD, List.getElem?_eq_none (by rw [rowOf_len h.a hv]; omega)]
        exact Int.mul_zero _
      rw [this, List.map_const', sum_rep0]
    rw [this]
    rfl
structure Beside (a b s : Shop) : Prop where
  wp : s.ws.Perm (a.ws ++ b.ws)
  vp : s.wants.Perm (a.wants ++ b.wants)
  ga : ShopG a
  aa : Acyclic (partsOf a)
  gb : ShopG b
  ab : Acyclic (partsOf b)
  ne : ∀ x ∈ a.names, x ∉ b.names
  hi : a.ws.length + b.ws.length ≤ 12
  hv : a.wants.length + b.wants.length ≤ 20
section
variable {a b s : Shop}
theorem Beside.symm (h : Beside a b s) : Beside b a s := ⟨h.wp.trans List.perm_append_comm, h.vp.trans List.perm_append_comm, h.gb, h.ab, h.ga, h.aa, fun x hx hy => h.ne x hy hx, by have := h.hi; omega, by have := h.hv; omega⟩
theorem Beside.names (h : Beside a b s) : s.names.Perm (a.names ++ b.names) := by
  unfold Shop.names
  rw [← List.map_append]
  exact h.wp.map _
theorem Beside.mem (h : Beside a b s) {w : Ware} (hw : w ∈ a.ws) : w ∈ s.ws := h.wp.mem_iff.mpr (List.mem_append_left _ hw)
theorem Beside.nm (h : Beside a b s) {x : Str} (hx : x ∈ a.names) : x ∈ s.names := h.names.mem_iff.mpr (List.mem_append_left _ hx)
theorem Beside.part (h : Beside a b s) {x : Str} (hx : x ∈ a.names) {v : Ware} (hv : v ∈ b.ws) : partSum v.parts x = 0 := partSum_none fun p hp e => h.ne x hx (by rw [← e]; exact h.gb.sub v hv p hp)
theorem Beside.g (h : Beside a b s) : ShopG s := by
  have hn := h.names
  refine ⟨?_, ?_, hn.nodup_iff.mpr (List.nodup_append.mpr ⟨h.ga.nd, h.gb.nd, fun x hx y hy e => h.ne x hx (e ▸ hy)⟩), fun w hw => ?_, fun w hw p hp => ?_, ?_, fun v hv => ?_⟩
  · have := h.ga.lo
    rw [h.wp.length_eq, List.length_append]
    omega
  · have := h.hi
    rw [h.wp.length_eq, List.length_append]
    omega
  · rcases List.mem_append.mp (h.wp.mem_iff.mp hw) with q | q
    · exact h.ga.ws w q
    · exact h.gb.ws w q
  · rcases List.mem_append.mp (h.wp.mem_iff.mp hw) with q | q
    · exact hn.mem_iff.mpr (List.mem_append_left _ (h.ga.sub w q p hp))
    · exact hn.mem_iff.mpr (List.mem_append_right _ (h.gb.sub w q p hp))
  · have := h.hv
    rw [h.vp.length_eq, List.length_append]
    omega
  · rcases List.mem_append.mp (h.vp.mem_iff.mp hv) with q | q
    · exact ⟨hn.mem_iff.mpr (List.mem_append_left _ (h.ga.wants.ok v q).1), (h.ga.wants.ok v q).2⟩
    · exact ⟨hn.mem_iff.mpr (List.mem_append_right _ (h.gb.wants.ok v q).1), (h.gb.wants.ok v q).2⟩
theorem Beside.ac (h : Beside a b s) : Acyclic (partsOf s) := by
  obtain ⟨ra, ha⟩ := h.aa
  obtain ⟨rb, hb⟩ := h.ab
  refine ⟨fun x => if x ∈ a.names then ra x else rb x, fun x ps hm p hp => ?_⟩
  obtain ⟨w, hw, e⟩ := List.mem_map.mp hm
  cases e
  have hp' := hp
  obtain ⟨u, hu, rfl⟩ := List.mem_map.mp hp'
  rcases List.mem_append.mp (h.wp.mem_iff.mp hw) with q | q
  · have h1 : w.nm ∈ a.names := List.mem_map_of_mem (f := fun w : Ware => w.nm) q
    dsimp only
    rw [if_pos (h.ga.sub w q u hu), if_pos h1]
    exact ha w.nm _ (List.mem_map.mpr ⟨w, q, rfl⟩) u.1 hp
  · have h1 : w.nm ∈ b.names := List.mem_map_of_mem (f := fun w : Ware => w.nm) q
    dsimp only
    rw [if_neg (fun z => h.ne _ z (h.gb.sub w q u hu)), if_neg (fun z => h.ne _ z h1)]
    exact hb w.nm _ (List.mem_map.mpr ⟨w, q, rfl⟩) u.1 hp
theorem Beside.sh (h : Beside a b s) : ShopA s := h.g.a h.ac
theorem Beside.times (h : Beside a b s) {f g : Str → Int} (hf : TimesTo s s.names f) (hg : TimesTo a a.names g) : ∀ x ∈ a.names, f x = g x :=
  times_uniq (h.ga.a h.aa) (fun w hw hl => hf w (h.mem hw) (h.nm hl)) hg
theorem wantAll_perm {u v : List Want} (h : u.Perm v) (nm : Str) : wantAll u nm = wantAll v nm := sum_perm ((h.filter _).map _)
theorem wantOn_perm {u v : List Want} (h : u.Perm v) (nm : Str) (d : Nat) : wantOn u nm d = wantOn v nm d := sum_perm ((h.filter _).map _)
theorem filter_app_none {α : Type} {p : α → Bool} {u v : List α} (h : ∀ x ∈ v, p x = false) : (u ++ v).filter p = u.filter p := by
  have e : v.filter p = [] := List.filter_eq_nil_iff.mpr fun x hx => by rw [h x hx]; exact Bool.false_ne_true
  rw [List.filter_append, e, List.append_nil]
theorem Beside.wantAll (h : Beside a b s) {x : Str} (hx : x ∈ a.names) : N.wantAll s.wants x = N.wantAll a.wants x := by
  rw [wantAll_perm h.vp]
  unfold N.wantAll
  rw [filter_app_none fun v hv => decide_eq_false fun e => h.ne x hx (by rw [← e]; exact (h.gb.wants.ok v hv).1)]
theorem Beside.wantOn (h : Beside a b s) {x : Str} (hx : x ∈ a.names) (d : Nat) : N.wantOn s.wants x d = N.wantOn a.wants x d := by
  rw [wantOn_perm h.vp]
  unfold N.wantOn
  rw [filter_app_none fun v hv => decide_eq_false fun e => h.ne x hx (by rw [← e.1]; exact (h.gb.wants.ok v hv).1)]
theorem sum_app0 {u v : List Int} (h : ∀ x ∈ v, x = 0) : (u ++ v).sum = u.sum := by
  rw [List.sum_append, show v.sum = 0 from ?_, Int.add_zero]
  induction v with
  | nil => rfl
  | cons y r ih =>
    rw [List.sum_cons, h y List.mem_cons_self, ih fun x hx => h x (List.mem_cons_of_mem _ hx)]
    rfl
theorem Beside.expl (h : Beside a b s) {f g : Str → Int} (hf : ExplTo s s.names f) (hg : ExplTo a a.names g) : ∀ x ∈ a.names, f x = g x := by
  refine expl_uniq (h.ga.a h.aa) (fun w hw hl => ?_) hg
  have e := hf w (h.mem hw) (h.nm hl)
  unfold fromNo at e ⊢
  rw [takes_ws h.g.nd, h.wantAll hl, sum_perm (h.wp.map _), List.map_append, sum_app0 fun y hy => ?_] at e
  · rw [takes_ws h.ga.nd]
    exact e
  · obtain ⟨v, hv, rfl⟩ := List.mem_map.mp hy
    rw [h.part hl hv]
    exact Int.mul_zero _
theorem Beside.need (h : Beside a b s) {x : Str} (hx : x ∈ a.names) (pl : List (Str × List Int)) (d : Nat) : needF s pl x d = needF a pl x d := by
  unfold needF
  rw [h.wantOn hx]
  congr 1
  unfold takeOn
  rw [sum_perm (h.wp.map _), List.map_append, sum_app0 fun y hy => ?_]
  obtain ⟨v, hv, rfl⟩ := List.mem_map.mp hy
  rw [takeParts_eq, h.part hx hv]
  exact Int.zero_mul _
theorem Beside.rowN (h : Beside a b s) (n : Nat) : ∀ x ∈ a.names, rowOf s n x = rowOf a n x := by
  refine rows_uniq (h.ga.a h.aa) (n := n) (r := rowOf s n) (q := rowOf a n) (l := workedOf s) (m := workedOf a) (fun x hx => workedOf_mem.mpr (h.nm hx)) (fun x hx => workedOf_mem.mpr hx) (fun w hw => ?_) fun w hw => ?_
  · have hn : w.nm ∈ a.names := List.mem_map_of_mem (f := fun w : Ware => w.nm) hw
    rw [rowOf_eq h.sh (h.mem hw), plan_fn h.g.nd, rowF_congr fun d _ => h.need hn _ d]
  · have := rowOf_eq (h.ga.a h.aa) (n := n) hw
    rw [plan_fn h.ga.nd] at this
    exact this
theorem Beside.days (h : Beside a b s) {m n : Nat} (hm : DaysOf a m) (hn : DaysOf s n) : m ≤ n := by
  rcases hm.is with e | ⟨v, hv, e⟩
  · have := hn.one
    omega
  · have := hn.up v (h.vp.mem_iff.mpr (List.mem_append_left _ hv))
    omega
/-- each ware's row is its row by itself, noughts behind it -/
theorem Beside.row (h : Beside a b s) {m n : Nat} (hm : DaysOf a m) (hn : DaysOf s n) : ∀ x ∈ a.names, rowOf s n x = rowOf a m x ++ List.replicate (n - m) 0 := fun x hx => by
  rw [h.rowN n x hx, row_pad (h.ga.plan h.aa hm) (h.days hm hn) x hx]
theorem Beside.early (h : Beside a b s) {m n : Nat} (hm : DaysOf a m) (hn : DaysOf s n) {w : Ware} (hw : w ∈ a.ws) (d : Nat) (x : Int) : Early s n w d x ↔ Early a m w d x := by
  have hx : w.nm ∈ a.names := List.mem_map_of_mem (f := fun w : Ware => w.nm) hw
  unfold Early
  rw [h.row hm hn _ hx, List.getElem?_append]
  split
  · exact Iff.rfl
  · rename_i q
    rw [List.getElem?_eq_none (show (rowOf a m w.nm).length ≤ d by omega), List.getElem?_replicate]
    constructor
    · rintro ⟨e, h0, _⟩
      split at e
      · cases e
        omega
      · cases e
    · rintro ⟨e, _⟩
      cases e
theorem Beside.has (h : Beside a b s) {k m n : Nat} (hk : DaysOf a k) (hm : DaysOf b m) (hn : DaysOf s n) : Has s n ↔ Has a k ∧ Has b m := by
  constructor
  · exact fun q => ⟨fun w hw d x e => q w (h.mem hw) d x ((h.early hk hn hw d x).mpr e), fun w hw d x e => q w (h.symm.mem hw) d x ((h.symm.early hm hn hw d x).mpr e)⟩
  · rintro ⟨q1, q2⟩ w hw d x e
    rcases List.mem_append.mp (h.wp.mem_iff.mp hw) with q | q
    · exact q1 w q d x ((h.early hk hn q d x).mp e)
    · exact q2 w q d x ((h.symm.early hm hn q d x).mp e)
/-- levels -/
theorem Beside.lev (h : Beside a b s) : ∀ x ∈ a.names, levF (partsOf s) x = levF (partsOf a) x := by
  have l1 := levels_ok h.ac
  have l2 := levels_ok h.aa
  obtain ⟨rank, hr⟩ := h.ac
  have up : ∀ (y : Str) (ps : List Str), (y, ps) ∈ partsOf a → (y, ps) ∈ partsOf s := fun y ps hm => by
    obtain ⟨w, hw, e⟩ := List.mem_map.mp hm
    exact List.mem_map.mpr ⟨w, h.mem hw, e⟩
  have dn : ∀ (y : Str) (ps : List Str) (x : Str), x ∈ a.names → (y, ps) ∈ partsOf s → x ∈ ps → (y, ps) ∈ partsOf a ∧ y ∈ a.names := fun y ps x hx hm hp => by
    obtain ⟨w, hw, e⟩ := List.mem_map.mp hm
    cases e
    rcases List.mem_append.mp (h.wp.mem_iff.mp hw) with q | q
    · exact ⟨List.mem_map.mpr ⟨w, q, rfl⟩, List.mem_map_of_mem (f := fun w : Ware => w.nm) q⟩
    · obtain ⟨u, hu, rfl⟩ := List.mem_map.mp hp
      exact absurd (h.gb.sub w q u hu) (h.ne _ hx)
  -- by levels, from the top
  have key : ∀ (k : Nat) (x : Str), x ∈ a.names → levF (partsOf s) x ≤ k → levF (partsOf s) x = levF (partsOf a) x := fun k => by
    induction k using Nat.strongRecOn with
    | ind k ih =>
      intro x hx hk
      have le : levF (partsOf s) x ≤ levF (partsOf a) x := by
        rcases l1.is x with e | ⟨y, ps, hm, hp, e⟩
        · rw [e]
          exact (l2.nn x).1
        · obtain ⟨h1, h2⟩ := dn y ps x hx hm hp
          have h3 := (l1.nn y).1
          have h4 : levF (partsOf s) y ≤ ((k - 1 : Nat) : Int) := by omega
          have := ih (k - 1) (by omega) y h2 h4
          have := l2.up y ps h1 x hp
          omega
      have ge : levF (partsOf a) x ≤ levF (partsOf s) x := by
        rcases l2.is x with e | ⟨y, ps, hm, hp, e⟩
        · rw [e]
          exact (l1.nn x).1
        · have h5 := l1.up y ps (up y ps hm) x hp
          have h2 : y ∈ a.names := by
            obtain ⟨w, hw, e⟩ := List.mem_map.mp hm
            cases e
            exact List.mem_map_of_mem (f := fun w : Ware => w.nm) hw
          have h3 := (l1.nn y).1
          have h4 : levF (partsOf s) y ≤ ((k - 1 : Nat) : Int) := by omega
          have := ih (k - 1) (by omega) y h2 h4
          omega
      omega
  intro x hx
  have := (l1.nn x).1
  exact key (levF (partsOf s) x).toNat x hx (by omega)
end
/-- a dict of the two together -/
theorem fn_beside {n1 n2 n : List Str} {f1 f2 f : Str → Int} (hp : n.Perm (n1 ++ n2)) (h1 : ∀ x ∈ n1, f x = f1 x) (h2 : ∀ x ∈ n2, f x = f2 x) : (fnS n f).Perm (fnS n1 f1 ++ fnS n2 f2) := by
  rw [← fnS_congr h1, ← fnS_congr h2]
  unfold fnS
  rw [← List.map_append]
  exact hp.map _
theorem perm_map {α β : Type} {f : α → β} : ∀ {ds : List β} {l : List α}, ds.Perm (l.map f) → ∃ zs : List α, ds = zs.map f ∧ zs.Perm l
  | [], l, h => by
    have := h.nil_eq
    cases l with
    | nil => exact ⟨[], rfl, .nil⟩
    | cons _ _ => cases this
  | d :: r, l, h => by
    have hd : d ∈ l.map f := h.mem_iff.mp List.mem_cons_self
    obtain ⟨x, hx, rfl⟩ := List.mem_map.mp hd
    obtain ⟨u, v, rfl⟩ := List.append_of_mem hx
    have h2 : (f x :: r).Perm (f x :: (u ++ v).map f) := h.trans (by rw [List.map_append, List.map_cons, List.map_append]; exact List.perm_middle)
    obtain ⟨zs, ez, hz⟩ := perm_map (f := f) (List.Perm.cons_inv h2)
    subst ez
    exact ⟨x :: zs, by rw [List.map_cons], (hz.cons x).trans List.perm_middle.symm⟩
end N

namespace N
open PySem L2 VL
def topS (i : Nat) : Stmt := PySem.Challenge.pw_needplan_k94_whole_shops_beside.main.body.getD i (.Pass ⟨0, 0, 0, 0⟩)
abbrev Gd (K : PySem.W.Frag) : Gs := ⟨GoodSt1, (PySem.W.tabIn K "worked").map (·.2)⟩
abbrev spLawN (K : PySem.W.Frag) := spLaw K (Gd K)
local macro_rules | `(tactic| walk_at "u") => `(tactic| first
  | (with_reducible refine fz_p ?_) | (with_reducible refine fz_o ?_) | (with_reducible refine fz_m ?_)
  | (with_reducible refine ex_bl ?_) | (with_reducible refine ex_int ?_) | (with_reducible refine ex_io ?_)
  | ((with_reducible refine' ex_plains ?h1 ?h2 ?_); (case h1 => exact rfl); (case h2 => exact rfl))
  | ((with_reducible refine' vs_append ?h ?_); (case h => exact rfl))
  | ((with_reducible refine' vs_insPop ?h ?_); (case h => exact rfl)) | ((with_reducible refine' vs_reverse ?h ?_); (case h => exact rfl)) | ((with_reducible refine' vs_dclear ?h ?_); (case h => exact rfl))
  | (with_reducible refine vs_asg ?_) | (with_reducible refine vs_ret ?_) | (with_reducible refine vs_expr ?_)
  | ((with_reducible refine' vs_aug ?h ?_); (case h => exact rfl))
  | (with_reducible refine vs_next ?_) | (with_reducible refine vs_break ?_) | (with_reducible refine vs_cont ?_) | (with_reducible refine vs_retN ?_)
  | ((with_reducible refine vg_p ?h ?_); (case h => exact Nat.le_of_ble_eq_true rfl))
  | ((with_reducible refine vg_o ?h ?_); (case h => exact Nat.le_of_ble_eq_true rfl))
  | ((with_reducible refine vg_tup ?h ?_); (case h => exact rfl))
  | ((with_reducible refine vg_lst ?h ?_); (case h => exact rfl))
  | (with_reducible refine vgs_cons ?_) | (with_reducible refine vgs_nil ?_)
  | ((with_reducible refine' ve_var ?h ?_); (case h => exact rfl))
  | ((with_reducible refine' ve_varm ?h ?_); (case h => exact rfl))
  | (with_reducible refine ve_int ?_) | (with_reducible refine ve_str ?_) | (with_reducible refine ve_bl ?_) | (with_reducible refine ve_non ?_)
  | (with_reducible refine ve_op ?_) | (with_reducible refine ve_un ?_) | (with_reducible refine ve_cb ?_)
  | (with_reducible refine ve_tup ?_) | (with_reducible refine ve_lst ?_) | (with_reducible refine ve_dnew ?_) | (with_reducible refine ve_slice ?_)
  | (with_reducible refine va_cons ?_) | (with_reducible refine va_nil ?_)
  | (with_reducible refine vp_none ?_) | (with_reducible refine vp_some ?_)
  | (with_reducible refine vt_B ?_) | (with_reducible refine vt_test ?_) | (with_reducible refine vt_and ?_) | (with_reducible refine vt_or ?_) | (with_reducible refine vt_not ?_) | (with_reducible refine vt_yes ?_)
  | (with_reducible refine ve_andV ?_) | (with_reducible refine ve_orV ?_) | (with_reducible refine ve_notV ?_) | (with_reducible refine ve_if ?_)
  | (with_reducible refine vo_I0 ?_) | (with_reducible refine vo_B0 ?_) | (with_reducible refine vo_ip ?_) | (with_reducible refine vu_I ?_)
  | (with_reducible refine vo_eq_int ?_) | (with_reducible refine vo_ne_int ?_) | (with_reducible refine vo_eq_str ?_) | (with_reducible refine vo_ne_str ?_) | (with_reducible refine vo_eq_bl ?_) | (with_reducible refine vo_ne_bl ?_)
  | (with_reducible refine vo_isN ?_) | (with_reducible refine vo_notN ?_)
  | ((with_reducible refine' vc_lenL ?h ?_); (case h => exact rfl)) | (with_reducible refine vc_lenT ?_)
  | ((with_reducible refine' vc_listL ?h ?_); (case h => exact rfl)) | (with_reducible refine vc_listT ?_)
  | ((with_reducible refine' vc_tupL ?h ?_); (case h => exact rfl))
  | (with_reducible refine vc_max2 ?_) | (with_reducible refine vc_min2 ?_) | (with_reducible refine vc_abs ?_) | (with_reducible refine vc_intB ?_)
  | ((with_reducible refine' vsl_list ?h ?_); (case h => exact rfl)) | (with_reducible refine vsl_tup ?_)
  | ((with_reducible refine vo_pow ?h ?_); (case h => exact ⟨by decide, by decide, by decide⟩))
  | ((with_reducible refine vo_mulq ?_ ?h); (case h => first | exact .inl (.inr ⟨by decide, by decide⟩) | exact .inl (.inl ⟨by decide, by decide⟩) | exact .inl (.inl ⟨by omega, by omega⟩) | exact .inl (.inr ⟨by omega, by omega⟩)))
  | (with_reducible refine vo_mulq ?_ ?hmul)
  | ((with_reducible refine vo_divq ?_ ?h); (case h => exact ⟨by first | decide | omega, by decide⟩))
  | (with_reducible refine vo_divq ?_ ?hdiv)
  | ((with_reducible refine vo_modq ?_ ?h); (case h => first | decide | omega))
  | (with_reducible refine vo_modq ?_ ?hmod)
  | (with_reducible refine ve_ty ?_)
  | ((with_reducible refine' vc_isi ?h1 ?h2 ?_); (case h1 => exact rfl); (case h2 => exact rfl))
  | (with_reducible refine ve_dget ?_) | (with_reducible refine ve_din ?_) | (with_reducible refine ve_dnotin ?_))
local macro_rules | `(tactic| walk_at "c") => `(tactic| (with_reducible refine ve_call lets_none ?_))
local macro_rules | `(tactic| walk_at "co") => `(tactic| (with_reducible refine ve_callO lets_none ?_))
local macro_rules | `(tactic| walk_at "v") => `(tactic| first | walk_at "u" | (with_reducible refine vs_seq ?_))
local macro_rules | `(tactic| walk_at "cm") => `(tactic| (with_reducible refine ve_callM lets_none ?_))
local macro_rules | `(tactic| walk_at "cmo") => `(tactic| (with_reducible refine ve_callMO lets_none ?_))

structure Glb (K : PySem.W.Frag) (mg : Str → Option Value) : Prop where
  one : True
  b_any : mg "any" = none
  b_dict : mg "dict" = none
  b_enumerate : mg "enumerate" = none
  b_int : mg "int" = none
  b_len : mg "len" = none
  b_list : mg "list" = none
  b_max : mg "max" = none
  b_min : mg "min" = none
  b_range : mg "range" = none
  b_reversed : mg "reversed" = none
  b_sorted : mg "sorted" = none
  b_sum : mg "sum" = none
  b_tuple : mg "tuple" = none
  b_zip : mg "zip" = none
/-! ### _law_drawn -/
abbrev s__law_drawn : Stmt := topS 28
abbrev N__law_drawn : List Str := ["script", "seed", "cell"]
theorem sc__law_drawn : FnScope N__law_drawn ["script"] (defScope s__law_drawn) := ⟨rfl, rfl, rfl, by decide +kernel, rfl, by decide +kernel, by decide +kernel⟩
section
variable {P : Program} {w : World} {K : PySem.W.Frag} {mg : Str → Option Value} {base : Heap}
abbrev sp__law_drawn (K : PySem.W.Frag) : Sp := SpA K (Gd K) true (fun ns : List Int => [.ro (ns.map D.int)]) (fun ns => ns.length ≤ 63) (fun _ d => ∃ l : List Int, d = .lst (l.map D.int) ∧ GoodSt1 l) noRs
theorem c__law_drawn (Dn : Dfn K mg "_law_drawn" s__law_drawn ["script"]) (Z : Glb K mg)  : Cal P w K mg base 1 "_law_drawn" (sp__law_drawn K) [] := by
  obtain ⟨f, fd, F, hm, hb⟩ := Dn.ex
  refine ⟨f, fd, ["script"], [], ?_, hm, F.kp, hb, .nil⟩
  refine F.ok sc__law_drawn (fun vs H Q E h => spA_len (fun _ => rfl) h) (fun cdv A outer s H vs Q E hr h => ?_)
  refine ⟨_, (pss_cons (ps_set (i := 1) sc__law_drawn.nd rfl (.inl rfl) pe_int)
    (pss_cons (ps_for PassesOwn.never rfl (pi_list (pv 0)) (pg_name (i := 2) sc__law_drawn.nd rfl (.inl rfl))
    (pss_one (ps_set (i := 1) sc__law_drawn.nd rfl (.inl rfl) (pe_op op_mod (pe_op op_add (pe_op op_add (pe_op (op_mul.or op_mulW) (pv 1) pe_int) (pe_op op_mod (pv 2) (pe_op op_pow pe_int pe_int))) pe_int) (pe_op op_sub (pe_op op_pow pe_int pe_int) pe_int)))))
    (pss_cons (ps_if ((pw_and (pt_cmpR op_gt (pe_callB call_len_seq (by rfl) Z.b_len PySem.boot_len (pa_cons (pv 0) pa_nil)) pe_int (nomark _)) (pw_and1 (pt_cmpR op_eq (pe_op op_mod (pe_ix ix_list (pv 0) pe_int (fun _ _ => rfl)) pe_int) pe_int (nomark _))))).pt
    (pss_one (ps_ret (pe_op op_cat (pe_op op_cat (pe_lst (pa_cons (pe_op op_fdivW (pe_ix ix_list (pv 0) pe_int (fun _ _ => rfl)) pe_int) pa_nil)) (pe_slice sl_list (pv 0) (po_some pe_int) (po_some pe_int))) (pe_lst (pa_cons (pv 1) pa_nil)))))
    pss_nil)
    (pss_one (ps_ret (pe_lst (pa_cons (pv 1) pa_nil))))))), ?_⟩
  try dsimp only [cxOf, Cx.nox, Cx.wish]
  refine run_def (N := N__law_drawn) (fun _ => Nat.le_of_ble_eq_true rfl) (env0 := fun ns => [.p (.ro (ns.map D.int)), .u, .u]) (fun _ => rfl) (fun B ns hp L => ?_) h
  repeat walk_at "v"
  refine vs_for (vi_l ?_)
  repeat walk_at "v"
  refine ⟨_, rfl, fun i e => ∃ s x, e = [.p (.ro (ns.map D.int)), .p (.int s), x], ⟨_, _, rfl⟩, ?_, ?_⟩
  · rintro i d e hi ⟨s, x, rfl⟩
    obtain ⟨n, hn, rfl⟩ := map_get hi
    repeat walk_at "v"
    exact ⟨_, _, rfl⟩
  · rintro e ⟨s, x, rfl⟩
    repeat walk_at "v"
    refine vs_if ?_
    repeat walk_at "v"
    refine ⟨fun hb => ?_, fun hb => ?_⟩
    · obtain ⟨n, r, rfl⟩ := cons_of_ne (l := ns) (fun z => by subst z; simp at hb)
      repeat walk_at "v"
      refine vo_ixL rfl (atI_nat (j := 0) rfl) ?_
      repeat walk_at "v"
      refine ⟨fun _ => ?_, fun _ => ?_⟩
      · repeat walk_at "v"
        refine vo_ixL rfl (atI_nat (j := 0) rfl) ?_
        repeat walk_at "v"
        rw [cutD_ints]
        have hlen : (List.take (HT.sIx (n :: r).length (n :: r).length (some 63) - HT.sIx (n :: r).length 0 (some 1)) (List.drop (HT.sIx (n :: r).length 0 (some 1)) (n :: r))).length ≤ 63 := by
          rw [List.length_take, List.length_drop]
          omega
        refine vo_cat rfl rfl (by rw [List.length_map]; show 1 + _ ≤ 100000; omega) ?_
        repeat walk_at "v"
        refine vo_cat rfl rfl (by rw [List.length_append, List.length_map]; show 1 + _ + 1 ≤ 100000; omega) ?_
        refine ⟨[n / 2] ++ List.take (HT.sIx (n :: r).length (n :: r).length (some 63) - HT.sIx (n :: r).length 0 (some 1)) (List.drop (HT.sIx (n :: r).length 0 (some 1)) (n :: r)) ++ [s], by rw [List.map_append, List.map_append]; rfl, by simp, ?_⟩
        rw [List.length_append, List.length_append]
        show 1 + _ + 1 ≤ 100
        omega
      · repeat walk_at "v"
        exact ⟨[s], rfl, by simp, by simp⟩
    · refine and_f rfl ?_
      repeat walk_at "v"
      exact ⟨[s], rfl, by simp, by simp⟩

end
/-! ### _law_next -/
abbrev s__law_next : Stmt := topS 27
abbrev N__law_next : List Str := ["state", "many", "digit"]
theorem sc__law_next : FnScope N__law_next ["state", "many"] (defScope s__law_next) := ⟨rfl, rfl, rfl, by decide +kernel, rfl, by decide +kernel, by decide +kernel⟩
section
variable {P : Program} {w : World} {K : PySem.W.Frag} {mg : Str → Option Value} {base : Heap}
abbrev sp__law_next (K : PySem.W.Frag) : Sp := SpA K (Gd K) false (fun m : Int => [.st, .int m]) (fun m => 0 < m ∧ m ≤ 10 ^ 50) (fun m d => ∃ k, d = .int k ∧ 0 ≤ k ∧ k < m) noRs
theorem c__law_next (Dn : Dfn K mg "_law_next" s__law_next ["state", "many"]) (Z : Glb K mg)  : Cal P w K mg base 1 "_law_next" (sp__law_next K) [] := by
  obtain ⟨f, fd, F, hm, hb⟩ := Dn.ex
  refine ⟨f, fd, ["state", "many"], [], ?_, hm, F.kp, hb, .nil⟩
  refine F.ok sc__law_next (fun vs H Q E h => spA_len (fun _ => rfl) h) (fun cdv A outer s H vs Q E hr h => ?_)
  refine ⟨_, (pss_cons (ps_if (pt_cmpR op_gt (pe_callB call_len_seq (by rfl) Z.b_len PySem.boot_len (pa_cons (pv 0) pa_nil)) pe_int (nomark _))
    (pss_cons (ps_set (i := 2) sc__law_next.nd rfl (.inl rfl) (pe_op op_mod (pe_ix ix_list (pv 0) pe_int (fun _ _ => rfl)) (pv 1)))
      (pss_cons (ps_asg (pe_op op_fdivW (pe_ix ix_list (pv 0) pe_int (fun _ _ => rfl)) (pv 1)) (pg_sub (pv 0) pe_int set_list))
      (pss_cons (ps_if (pt_cmpR op_in_seq (pe_ix ix_list (pv 0) pe_int (fun _ _ => rfl)) (pe_tup (pa_cons pe_int (pa_cons (pe_un un_neg pe_int) pa_nil))) (by rfl))
      (pss_one (ps_expr (pe_bm PySem.F.plainAttrs_list PySem.F.slot_list_pop PySem.F.type_list_pop mt_popAt (pv 0) (pa_cons pe_int pa_nil))))
      pss_nil)
      (pss_one (ps_ret (pv 2))))))
    pss_nil)
    (pss_cons (ps_asg (pe_op op_mod (pe_op op_add (pe_op (op_mul.or op_mulW) (pe_ix ix_list (pv 0) pe_int (fun _ _ => rfl)) pe_int) pe_int) (pe_op op_sub (pe_op op_pow pe_int pe_int) pe_int)) (pg_sub (pv 0) pe_int set_list))
    (pss_one (ps_ret (pe_op op_mod (pe_op op_fdivW (pe_ix ix_list (pv 0) pe_int (fun _ _ => rfl)) pe_int) (pv 1)))))), ?_⟩
  try dsimp only [cxOf, Cx.nox, Cx.wish]
  obtain ⟨R, m, ⟨s, _⟩, ha, ⟨hm, hm2⟩, q, _⟩ := h
  have hlog : m.natAbs.log2 < 9000 := by
    rw [Nat.log2_lt (by omega)]
    exact Nat.lt_of_le_of_lt (show m.natAbs ≤ 10 ^ 50 by omega) (by decide)
  cases ha with
  | cons h1 t =>
  cases t with
  | cons h2 t =>
  cases t
  cases h2
  obtain ⟨a, φ, rfl, hR⟩ := st_at h1
  obtain ⟨ns, hH, hg1, hg2⟩ := s a _ hR
  obtain ⟨x, r, rfl⟩ : ∃ x r, ns = x :: r := by
    cases ns with
    | nil => exact absurd rfl hg1
    | cons x r => exact ⟨x, r, rfl⟩
  have hL : SqL K H a ((x :: r).map V.int) := .inl (.inl hH)
  have at0 : ∀ (y : Int), atI ((y :: r).map V.int) 0 = some (.int y) := fun y => atI_nat (j := 0) rfl
  have ix0 : ∀ (y : Int), ixN ((y :: r).map V.int).length 0 = some 0 := fun y => by simp [ixN]
  have sq0 : seqIndex? 0 ((x / m :: r).map V.int).length = some 0 := by
    rw [seqIndex_of (by decide) (by simp <;> omega)]
    rfl
  have fin : ∀ (k : Int) (H' : Hp), 0 ≤ k → k < m → VL.Step K (Gd K) R H R H' → Q (.int k) H' := fun k H' k0 k1 st => q _ R H' (.int k) st (.int k) (fun z => by cases z) ⟨k, rfl, k0, k1⟩
  refine ⟨.ref a, rfl, a, _, rfl, .inl hL, _, _, rfl, rfl, _, rfl, ite2 (fun hc => ?_) (fun hc => ?_)⟩
  · have hc1 : (1 : Int) < (((x :: r).map V.int).length : Int) := of_decide_eq_true hc
    have hr1 : r ≠ [] := fun z => by
      subst z
      exact absurd hc1 (by show ¬ (1 : Int) < 1; decide)
    have g1 : GoodSt1 (x / m :: r) := ⟨by simp, by simpa using hg2⟩
    have g2 : GoodSt1 r := ⟨hr1, by simp at hg2; omega⟩
    have st1 := step_st s hR g1
    refine ⟨.ref a, rfl, a, _, 0, .int x, rfl, rfl, hL, at0 x, .int m, rfl, _, _, rfl, rfl, hm, ?_⟩
    refine ⟨.ref a, rfl, a, _, 0, .int x, rfl, rfl, hL, at0 x, .int m, rfl, _, _, rfl, rfl, ⟨hm, hlog⟩, .ref a, rfl, a, _, 0, 0, rfl, rfl, hH, ix0 x, ?_⟩
    have hH1 : (upd H a (.lst ((x / m :: r).map V.int))) a = some (.lst ((x / m :: r).map V.int)) := upd_same
    have hL1 : SqL K (upd H a (.lst ((x / m :: r).map V.int))) a ((x / m :: r).map V.int) := .inl (.inl hH1)
    refine ⟨.ref a, rfl, a, _, 0, .int (x / m), rfl, rfl, hL1, at0 _, _, rfl, by show 2 ≤ sizeLine; decide, fun T hT => ?_⟩
    have naT : a ≠ T := ne_of_none hH1 hT
    have st2 := st1.trans (step_new (o := .tup [.int 0, .int (-1)]) st1.sub hT)
    have hH2 : (upd (upd H a (.lst ((x / m :: r).map V.int))) T (.tup [.int 0, .int (-1)])) a = some (.lst ((x / m :: r).map V.int)) := by
      rw [upd_ne naT]
      exact hH1
    refine ⟨T, _, rfl, .inr (.inl (.inl upd_same)), rfl, rfl, _, rfl, ite2 (fun _ => ?_) (fun _ => ?_)⟩
    · refine ⟨.ref a, rfl, .inl ⟨rfl, _, .inl (.inl hH2)⟩, a, _, 0, 0, .int (x / m), rfl, rfl, hH2, by decide, by decide, sq0, rfl, ?_⟩
      refine ⟨_, rfl, fin _ _ (Int.emod_nonneg _ (by omega)) (Int.emod_lt_of_pos _ hm) ?_⟩
      exact st2.trans (step_st st2.sub hR g2)
    · exact ⟨_, rfl, fin _ _ (Int.emod_nonneg _ (by omega)) (Int.emod_lt_of_pos _ hm) st2⟩
  · refine ⟨.ref a, rfl, a, _, 0, .int x, rfl, rfl, hL, at0 x, ?_⟩
    refine .inl ⟨_, _, rfl, rfl, .inr ⟨by decide, by decide⟩, _, _, rfl, rfl, _, _, rfl, rfl, ⟨by decide, by decide, by decide⟩, _, _, rfl, rfl, _, _, rfl, rfl, (by show (0 : Int) < 2 ^ (61 : Int).toNat - 1; decide), .ref a, rfl, a, _, 0, 0, rfl, rfl, hH, ix0 x, ?_⟩
    have g3 : GoodSt1 ((x * 1181783497276652981 + 12345678910987) % (2 ^ (61 : Int).toNat - 1) :: r) := ⟨by simp, by simpa using hg2⟩
    have st3 := step_st s hR g3
    refine ⟨.ref a, rfl, a, _, 0, .int ((x * 1181783497276652981 + 12345678910987) % (2 ^ (61 : Int).toNat - 1)), rfl, rfl, .inl (.inl upd_same), at0 _, _, _, rfl, rfl, ⟨by decide, by decide⟩, .int m, rfl, _, _, rfl, rfl, hm, fin _ _ (Int.emod_nonneg _ (by omega)) (Int.emod_lt_of_pos _ hm) st3⟩

end
/-! ### _law_among -/
abbrev s__law_among : Stmt := topS 34
abbrev N__law_among : List Str := ["state", "one", "other", "left", "found", "ware"]
theorem sc__law_among : FnScope N__law_among ["state", "one", "other"] (defScope s__law_among) := ⟨rfl, rfl, rfl, by decide +kernel, rfl, by decide +kernel, by decide +kernel⟩
section
variable {P : Program} {w : World} {K : PySem.W.Frag} {mg : Str → Option Value} {base : Heap}
abbrev sp__law_among (K : PySem.W.Frag) : Sp := SpA K (Gd K) false (fun x : List D × List D => [.st, .tup x.1, .tup x.2]) (fun x => x.1.length ≤ 100 ∧ x.2.length ≤ 100) (fun x d => ∃ ds, d = .tup ds ∧ ds.Perm (x.1 ++ x.2)) noRs
theorem c__law_among (Dn : Dfn K mg "_law_among" s__law_among ["state", "one", "other"]) (Z : Glb K mg) (C__law_next : Cal P w K mg base 1 "_law_next" (sp__law_next K) []) : Cal P w K mg base 2 "_law_among" (sp__law_among K) [] := by
  obtain ⟨f, fd, F, hm, hb⟩ := Dn.ex
  refine ⟨f, fd, ["state", "one", "other"], [], ?_, hm, F.kp, hb, .nil⟩
  refine F.ok sc__law_among (fun vs H Q E h => spA_len (fun _ => rfl) h) (fun cdv A outer s H vs Q E hr h => ?_)
  refine ⟨_, (pss_cons (ps_set (i := 3) sc__law_among.nd rfl (.inl rfl) (pe_callTy call_list_of (by rfl) Z.b_list (by decide +kernel) (pa_cons (pv 2) pa_nil)))
    (pss_cons (ps_set (i := 4) sc__law_among.nd rfl (.inl rfl) (pe_lst pa_nil))
    (pss_cons (ps_for PassesOwn.never rfl (pi_tup (pv 1)) (pg_name (i := 5) sc__law_among.nd rfl (.inl rfl))
    (pss_cons (ps_while PassesOwn.never ((pw_and (pt_cmpR op_gt (pe_callB call_len_seq (by rfl) Z.b_len PySem.boot_len (pa_cons (pv 3) pa_nil)) pe_int (nomark _)) (pw_and1 (pt_cmpR op_eq (pe_c C__law_next hr (by first | decide | omega) (by rfl) (pa_cons (pv 0) (pa_cons pe_int pa_nil))) pe_int (nomark _))))).pt
      (pss_one (ps_expr (pe_bm PySem.F.plainAttrs_list PySem.F.slot_list_append PySem.F.type_list_append mt_append (pv 4) (pa_cons (pe_bm PySem.F.plainAttrs_list PySem.F.slot_list_pop PySem.F.type_list_pop mt_popAt (pv 3) (pa_cons pe_int pa_nil)) pa_nil)))))
      (pss_one (ps_expr (pe_bm PySem.F.plainAttrs_list PySem.F.slot_list_append PySem.F.type_list_append mt_append (pv 4) (pa_cons (pv 5) pa_nil))))))
    (pss_one (ps_ret (pe_callTy call_tuple_of (by rfl) Z.b_tuple (by decide +kernel) (pa_cons (pe_op op_cat (pv 4) (pv 3)) pa_nil))))))), ?_⟩
  try dsimp only [cxOf, Cx.nox, Cx.wish]
  refine run_def (N := N__law_among) (fun _ => Nat.le_of_ble_eq_true rfl) (env0 := fun x : List D × List D => [.p .st, .p (.tup x.1), .p (.tup x.2), .u, .u, .u]) (fun _ => rfl) (fun B x hp L => ?_) h
  obtain ⟨us, vs⟩ := x
  obtain ⟨h1, h2⟩ := hp
  dsimp only at h1 h2 ⊢
  repeat walk_at "v"
  refine vs_for (vi_tup ?_)
  repeat walk_at "v"
  refine ⟨_, rfl, fun i e => ∃ (fs ls : List D) (x : Slot), e = [.p .st, .p (.tup us), .p (.tup vs), .mu (.lst ls), .mu (.lst fs), x] ∧ (fs ++ ls).Perm (us.take i ++ vs), ⟨[], vs, .u, rfl, by simp⟩, ?_, ?_⟩
  · rintro i d e hi ⟨fs, ls, x, rfl, hpm⟩
    have hi2 := lt_of_get hi
    repeat walk_at "v"
    refine vs_while (fun m e => ∃ (fs ls : List D), e = [.p .st, .p (.tup us), .p (.tup vs), .mu (.lst ls), .mu (.lst fs), .p d] ∧ m = ls.length ∧ (fs ++ ls).Perm (us.take i ++ vs)) ⟨_, fs, ls, rfl, rfl, hpm⟩ ?_
    rintro m e ⟨fs, ls, rfl, rfl, hpm⟩
    have hlen := hpm.length_eq
    rw [List.length_append, List.length_append, List.length_take] at hlen
    repeat walk_at "v"
    refine ⟨fun hb => ?_, fun hb => ?_⟩
    · have hb2 : (ls.length : Int) > 0 := of_decide_eq_true hb
      obtain ⟨y, r, rfl⟩ : ∃ y r, ls = y :: r := by
        cases ls with
        | nil => exact absurd hb2 (by decide)
        | cons y r => exact ⟨y, r, rfl⟩
      repeat walk_at "v"
      walk_at "c"
      repeat walk_at "v"
      refine ⟨_, rfl, ⟨by first | decide | omega, by first | decide | omega⟩, fun _ h => h, ?_⟩
      rintro _ ⟨q, rfl, q0, q1⟩
      repeat walk_at "v"
      refine ⟨fun _ => ?_, fun _ => ?_⟩
      · refine vs_appPop (by decide) rfl rfl ?_
        repeat walk_at "v"
        refine ⟨0, y, rfl, rfl, by omega, by omega, ?_⟩
        refine ⟨_, ?_, fs ++ [y], r, rfl, rfl, ?_⟩
        · rw [List.length_cons]
          exact Nat.lt_succ_self _
        · rw [List.append_assoc]
          exact hpm
      · repeat walk_at "v"
        refine ⟨_, rfl, by omega, ?_⟩
        refine ⟨fs ++ [d], y :: r, _, rfl, ?_⟩
        rw [take_one hi, List.append_assoc, List.append_assoc]
        exact (List.perm_middle).trans ((hpm.cons d).trans List.perm_middle.symm)
    · refine and_f rfl ?_
      repeat walk_at "v"
      refine ⟨_, rfl, by omega, ?_⟩
      refine ⟨fs ++ [d], ls, _, rfl, ?_⟩
      rw [take_one hi, List.append_assoc, List.append_assoc]
      exact (List.perm_middle).trans ((hpm.cons d).trans List.perm_middle.symm)
  · rintro e ⟨fs, ls, x, rfl, hpm⟩
    rw [List.take_length] at hpm
    have hlen := hpm.length_eq
    rw [List.length_append, List.length_append] at hlen
    repeat walk_at "v"
    refine vo_cat rfl rfl (by omega) ?_
    repeat walk_at "v"
    exact ⟨rfl, _, rfl, hpm⟩

end
/-! ### parts_by_name -/
abbrev s_parts_by_name : Stmt := topS 5
abbrev N_parts_by_name : List Str := ["shop", "found", "ware", "part"]
theorem sc_parts_by_name : FnScope N_parts_by_name ["shop"] (defScope s_parts_by_name) := ⟨rfl, rfl, rfl, by decide +kernel, rfl, by decide +kernel, by decide +kernel⟩
section
variable {P : Program} {w : World} {K : PySem.W.Frag} {mg : Str → Option Value} {base : Heap}
abbrev sp_parts_by_name (K : PySem.W.Frag) : Sp := SpA K (Gd K) true (fun s : Shop => [shopD s]) (fun s => ShopOk s) (fun s d => d = .dct (sdD strsD (partsOf s))) noRs
theorem c_parts_by_name (Dn : Dfn K mg "parts_by_name" s_parts_by_name ["shop"]) (Z : Glb K mg)  : Cal P w K mg base 1 "parts_by_name" (sp_parts_by_name K) [] := by
  obtain ⟨f, fd, F, hm, hb⟩ := Dn.ex
  refine ⟨f, fd, ["shop"], [], ?_, hm, F.kp, hb, .nil⟩
  refine F.ok sc_parts_by_name (fun vs H Q E h => spA_len (fun _ => rfl) h) (fun cdv A outer s H vs Q E hr h => ?_)
  refine ⟨_, (pss_cons (ps_set (i := 1) sc_parts_by_name.nd rfl (.inl rfl) pe_dnewK)
    (pss_cons (ps_for PassesOwn.never rfl (pi_tup (pe_ix ix_tup (pv 0) pe_int (fun _ _ => rfl))) (pg_name (i := 2) sc_parts_by_name.nd rfl (.inl rfl))
    (pss_one (ps_dput (hu_of hr) (pv 1) (pe_ix ix_tup (pv 2) pe_int (fun _ _ => rfl)) (pe_lc (own := [("part", 3)]) rfl sc_parts_by_name.nd (pi_tup (pe_ix ix_tup (pv 2) pe_int (fun _ _ => rfl))) (blkOk_by (N := N_parts_by_name) (sc := defScope s_parts_by_name) (by decide +kernel)) (fun _ _ _ _ _ => (pg_name (i := 3) sc_parts_by_name.nd rfl (.inl rfl))) (fun _ _ _ _ _ => pts_nil) (fun _ _ _ _ _ => (pe_ix (show IxR _ (rIxT K) from ix_tup) (pv 3) pe_int (fun _ _ => rfl)))) rfl)))
    (pss_one (ps_ret (pv 1))))), ?_⟩
  try dsimp only [cxOf, Cx.nox, Cx.wish]
  refine run_def (N := N_parts_by_name) (fun _ => Nat.le_of_ble_eq_true rfl) (env0 := fun s : Shop => [.p (shopD s), .u, .u, .u]) (fun _ => rfl) (fun B s hp L => ?_) h
  repeat walk_at "v"
  refine vs_for (vi_tup ?_)
  repeat walk_at "v"
  refine vo_ixT (atI_nat (j := 0) rfl) ?_
  repeat walk_at "v"
  refine ⟨_, rfl, fun i e => ∃ x, e = [.p (shopD s), .mu (.dct (sdD strsD (partsOf ⟨s.ws.take i, []⟩))), x, .u], ⟨.u, rfl⟩, ?_, ?_⟩
  · rintro i d e hi ⟨x, rfl⟩
    obtain ⟨w, hw, rfl⟩ := map_get hi
    have hwm := List.mem_of_getElem? hw
    have hlt := lt_of_get hw
    have hn := hp.n
    have hpl := hp.p w hwm
    have e1 : partsOf ⟨s.ws.take (i + 1), []⟩ = partsOf ⟨s.ws.take i, []⟩ ++ [(w.nm, w.parts.map (·.1))] := by
      unfold partsOf
      rw [take_one hw, List.map_append]
      rfl
    have hnew : w.nm ∉ (partsOf ⟨s.ws.take i, []⟩).map (·.1) := by
      rw [partsOf_keys]
      intro z
      have nd := hp.nd
      unfold Shop.names at z nd
      dsimp only at z
      obtain ⟨j, hj⟩ := List.getElem?_of_mem z
      rw [List.getElem?_map, List.getElem?_take] at hj
      split at hj
      · rename_i hji
        have h1 : (s.ws.map fun w => w.nm)[j]? = some w.nm := by rw [List.getElem?_map]; exact hj
        have h2 : (s.ws.map fun w => w.nm)[i]? = some w.nm := by rw [List.getElem?_map, hw]; rfl
        have := (List.getElem?_inj (lt_of_get h1) nd).mp (h1.trans h2.symm)
        omega
      · cases hj
    repeat walk_at "v"
    refine vs_dput rfl ?_
    repeat walk_at "v"
    refine ve_lc (hu1 rfl) (only_name (by decide)) (vi_tup ?_)
    repeat walk_at "v"
    refine vo_ixT (atI_nat (j := 6) rfl) ?_
    refine ⟨_, rfl, by rw [List.length_map]; omega, fun j acc => acc = ((w.parts.take j).map (·.1)).map D.str, rfl, ?_, ?_⟩
    · rintro q j d acc hj rfl
      obtain ⟨p, hpj, rfl⟩ := map_get hj
      repeat walk_at "v"
      refine ⟨.set .refl (by decide), ?_⟩
      repeat walk_at "v"
      refine and_t rfl ?_
      repeat walk_at "v"
      refine vo_ixT (atI_nat (j := 0) rfl) ?_
      refine fz_p ⟨_, rfl, ?_⟩
      show _ = List.map _ (List.map _ (List.take (j + 1) _))
      rw [take_one hpj, List.map_append, List.map_append]
      rfl
    · rintro acc rfl
      rw [List.length_map, List.take_length]
      refine fz_o ⟨_, rfl, ?_⟩
      repeat walk_at "v"
      refine vo_ixT (d := .str w.nm) (atI_nat (j := 0) rfl) ?_
      refine ⟨.inr w.nm, rfl, ?_, ?_⟩
      · unfold sdD partsOf
        rw [List.length_map, List.length_map, List.length_take]
        omega
      · have h3 : putD (sdD strsD (partsOf ⟨s.ws.take i, []⟩)) (.inr w.nm) (.lst ((w.parts.map (·.1)).map D.str)) = sdD strsD (partsOf ⟨s.ws.take i, []⟩ ++ [(w.nm, w.parts.map (·.1))]) := putD_newS strsD hnew
        rw [h3, ← e1]
        exact ⟨_, rfl⟩
  · rintro e ⟨x, rfl⟩
    rw [List.length_map, List.take_length]
    repeat walk_at "v"
    rfl

end
/-! ### without_ends -/
abbrev s_without_ends : Stmt := topS 6
abbrev N_without_ends : List Str := ["parts", "left", "many", "name", "part"]
theorem sc_without_ends : FnScope N_without_ends ["parts"] (defScope s_without_ends) := ⟨rfl, rfl, rfl, by decide +kernel, rfl, by decide +kernel, by decide +kernel⟩
section
variable {P : Program} {w : World} {K : PySem.W.Frag} {mg : Str → Option Value} {base : Heap}
structure TabOk (t : List (Str × List Str)) : Prop where
  nd : (t.map (·.1)).Nodup
  n : t.length ≤ 1000
  p : ∀ x ∈ t, x.2.length ≤ 1000
abbrev sp_without_ends (K : PySem.W.Frag) : Sp := SpA K (Gd K) true (fun t : List (Str × List Str) => [.dct (sdD strsD t)]) (fun t => TabOk t) (fun t d => ∃ L : List Str, d = .lst (L.map D.str) ∧ Core t L) noRs
theorem c_without_ends (Dn : Dfn K mg "without_ends" s_without_ends ["parts"]) (Z : Glb K mg)  : Cal P w K mg base 1 "without_ends" (sp_without_ends K) [] := by
  obtain ⟨f, fd, F, hm, hb⟩ := Dn.ex
  refine ⟨f, fd, ["parts"], [], ?_, hm, F.kp, hb, .nil⟩
  refine F.ok sc_without_ends (fun vs H Q E h => spA_len (fun _ => rfl) h) (fun cdv A outer s H vs Q E hr h => ?_)
  refine ⟨_, (pss_cons (ps_set (i := 1) sc_without_ends.nd rfl (.inr rfl) (pe_callTy (call_list_dK rfl) (by rfl) Z.b_list (by decide +kernel) (pa_cons (pv 0) pa_nil)))
    (pss_cons (ps_set (i := 2) sc_without_ends.nd rfl (.inl rfl) (pe_op op_add (pe_callB call_len_seq (by rfl) Z.b_len PySem.boot_len (pa_cons (pv 1) pa_nil)) pe_int))
    (pss_cons (ps_while PassesOwn.never (pt_cmpR op_lt (pe_callB call_len_seq (by rfl) Z.b_len PySem.boot_len (pa_cons (pv 1) pa_nil)) (pv 2) (nomark _))
    (pss_cons (ps_set (i := 2) sc_without_ends.nd rfl (.inl rfl) (pe_callB call_len_seq (by rfl) Z.b_len PySem.boot_len (pa_cons (pv 1) pa_nil)))
      (pss_one (ps_set (i := 1) sc_without_ends.nd rfl (.inr rfl) (pe_lc (own := [("name", 3)]) rfl sc_without_ends.nd (pi_list (pv 1)) (blkOk_by (N := N_without_ends) (sc := defScope s_without_ends) (by decide +kernel)) (fun _ _ _ _ _ => (pg_name (i := 3) sc_without_ends.nd rfl (.inl rfl))) (fun _ _ _ _ _ => (pts_one (pt_val (pe_callB (show CallR _ _ (rAny K) from (cr_any rfl)) (by rfl) Z.b_any (by decide +kernel) (pa_cons (pe_lc (own := [("part", 4)]) rfl sc_without_ends.nd (show PI _ _ _ (iList K _) from pi_list (pe_dget (hu_of hr) (pv 0) (pv 3) (fun _ _ => rfl))) (blkOk_by (by kernel_rfl)) (fun _ _ _ _ _ => (pg_name (i := 4) sc_without_ends.nd rfl (.inl rfl))) (fun _ _ _ _ _ => pts_nil) (fun _ _ _ _ _ => (pe_cmpR (show OpR _ _ (rIn K false) from op_in_seq) (pv 4) (pv 1) (by rfl)))) pa_nil))))) (fun _ _ _ _ _ => (pv 3)))))))
    (pss_one (ps_ret (pv 1)))))), ?_⟩
  try dsimp only [cxOf, Cx.nox, Cx.wish]
  refine run_def (N := N_without_ends) (fun _ => Nat.le_of_ble_eq_true rfl) (env0 := fun t : List (Str × List Str) => [.p (.dct (sdD strsD t)), .u, .u, .u, .u]) (fun _ => rfl) (fun B t hp L => ?_) h
  have hn := hp.n
  have ekeys : (sdD strsD t).map (fun p => keyD p.1) = (t.map (·.1)).map D.str := by
    unfold sdD
    rw [List.map_map, List.map_map]
    rfl
  repeat walk_at "v"
  refine vc_listD rfl ?_
  rw [ekeys]
  repeat walk_at "v"
  refine vs_while (fun m e => ∃ (left : List Str) (many : Nat), e = [.p (.dct (sdD strsD t)), .mu (.lst (left.map D.str)), .p (.int many), .u, .u] ∧ m = many ∧ left.Nodup ∧ left.length ≤ t.length ∧ (∀ x ∈ left, x ∈ t.map (·.1)) ∧ left.length ≤ many ∧ (left.length = many → ∀ x ∈ left, hasIn t left x = true) ∧
      (∀ T : List Str, (∀ x ∈ T, x ∈ t.map (·.1) ∧ hasIn t T x = true) → ∀ x ∈ T, x ∈ left))
    ⟨_, t.map (·.1), t.length + 1, ?_, rfl, hp.nd, by rw [List.length_map]; exact Nat.le_refl _, fun x h => h, by rw [List.length_map]; omega, fun z => by rw [List.length_map] at z; omega, fun T hT x hx => (hT x hx).1⟩ ?_
  · rw [List.length_map, List.length_map]
    rfl
  rintro m e ⟨left, many, rfl, rfl, hnd, hlen, hsub, hle, hcl, hgr⟩
  repeat walk_at "v"
  rw [List.length_map]
  refine ⟨fun hb => ?_, fun hb => ?_⟩
  · have hlt : left.length < m := by have := of_decide_eq_true hb; omega
    refine vs_freeze 1 rfl ?_
    repeat walk_at "v"
    rw [List.length_map]
    refine ve_lc (hu1 rfl) (only_name (by decide)) (vi_l ?_)
    repeat walk_at "v"
    refine ⟨_, rfl, by rw [List.length_map]; omega, fun j acc => acc = ((left.take j).filter (hasIn t left)).map D.str, rfl, ?_, ?_⟩
    · rintro q j d acc hj rfl
      obtain ⟨x, hx, rfl⟩ := map_get hj
      have hxm := List.mem_of_getElem? hx
      obtain ⟨ps, hps⟩ := getS_some (hsub x hxm)
      have hpl := hp.p _ (getS_mem hps)
      have hstep : (left.take (j + 1)).filter (hasIn t left) = (left.take j).filter (hasIn t left) ++ (if hasIn t left x = true then [x] else []) := by
        rw [take_one hx, List.filter_append]
        congr 1
        by_cases q : hasIn t left x = true
        · rw [if_pos q]
          simp [q]
        · rw [if_neg q]
          simp [q]
      repeat walk_at "v"
      refine ⟨.set .refl (by decide), ?_⟩
      repeat walk_at "v"
      refine ve_lc (hu1 rfl) (only_name (by decide)) (vi_l ?_)
      repeat walk_at "v"
      refine ⟨_, .inr x, _, rfl, rfl, by rw [valD_S, hps]; rfl, ?_⟩
      repeat walk_at "v"
      refine ⟨_, rfl, by rw [List.length_map]; exact Nat.lt_of_le_of_lt hpl (by decide), fun k acc => acc = ((ps.take k).map fun p => decide (p ∈ left)).map D.bl, rfl, ?_, ?_⟩
      · rintro q k d acc hk rfl
        obtain ⟨p, hpk, rfl⟩ := map_get hk
        repeat walk_at "v"
        refine ⟨.set .refl (by decide), ?_⟩
        repeat walk_at "v"
        refine and_t rfl ?_
        repeat walk_at "v"
        refine vo_inS rfl ?_
        refine fz_p ⟨_, rfl, ?_⟩
        show _ = List.map _ (List.map _ (List.take (k + 1) _))
        rw [take_one hpk, List.map_append, List.map_append]
        rfl
      · rintro acc rfl
        rw [List.length_map, List.take_length]
        repeat walk_at "v"
        refine vc_any rfl ?_
        have ehas : (ps.map fun p => decide (p ∈ left)).any id = hasIn t left x := by
          unfold hasIn
          rw [hps, List.any_map]
          rfl
        rw [ehas]
        refine ⟨_, rfl, fun hb => ?_, fun hb => ?_⟩
        · repeat walk_at "v"
          refine ⟨_, rfl, ?_⟩
          show _ = List.map _ (List.filter _ (List.take (j + 1) _))
          rw [hstep, if_pos hb, List.map_append]
          rfl
        · show _ = List.map _ (List.filter _ (List.take (j + 1) _))
          rw [hstep, if_neg (by rw [hb]; exact Bool.false_ne_true), List.append_nil]
    · rintro acc rfl
      rw [List.length_map, List.take_length]
      repeat walk_at "v"
      have hfl : (left.filter (hasIn t left)).length ≤ left.length := List.length_filter_le _ _
      refine ⟨left.length, hlt, left.filter (hasIn t left), left.length, rfl, rfl, hnd.sublist List.filter_sublist, by omega, fun x hx => hsub x (List.mem_filter.mp hx).1, hfl, fun hq x hx => ?_, fun T hT x hx => ?_⟩
      · have hall : left.filter (hasIn t left) = left := List.filter_sublist.eq_of_length hq
        rw [hall]
        exact (List.mem_filter.mp hx).2
      · have hxl := hgr T hT x hx
        exact List.mem_filter.mpr ⟨hxl, hasIn_mono (fun y hy => hgr T hT y hy) (hT x hx).2⟩
  · have heq : left.length = m := by have := of_decide_eq_false hb; omega
    repeat walk_at "v"
    exact ⟨left, rfl, hsub, hnd, hlen, hcl heq, hgr⟩

end
/-! ### ring -/
abbrev s_ring : Stmt := topS 7
abbrev N_ring : List Str := ["shop", "parts", "left", "way", "later", "part"]
theorem sc_ring : FnScope N_ring ["shop"] (defScope s_ring) := ⟨rfl, rfl, rfl, by decide +kernel, rfl, by decide +kernel, by decide +kernel⟩
theorem tabOk_of {s : Shop} (h : ShopOk s) : TabOk (partsOf s) := ⟨by rw [partsOf_keys]; exact h.nd, by unfold partsOf; rw [List.length_map]; have := h.n; omega, fun x hx => by
  obtain ⟨w, hw, rfl⟩ := List.mem_map.mp hx
  have := h.p w hw
  rw [List.length_map]
  omega⟩
section
variable {P : Program} {w : World} {K : PySem.W.Frag} {mg : Str → Option Value} {base : Heap}
abbrev sp_ring (K : PySem.W.Frag) : Sp := SpA K (Gd K) false (fun s : Shop => [shopD s]) (fun s => ShopA s) (fun _ d => d = .non) noRs
theorem c_ring (Dn : Dfn K mg "ring" s_ring ["shop"]) (Z : Glb K mg) (C_without_ends : Cal P w K mg base 1 "without_ends" (sp_without_ends K) []) (C_parts_by_name : Cal P w K mg base 1 "parts_by_name" (sp_parts_by_name K) []) : Cal P w K mg base 2 "ring" (sp_ring K) [] := by
  obtain ⟨f, fd, F, hm, hb⟩ := Dn.ex
  refine ⟨f, fd, ["shop"], [], ?_, hm, F.kp, hb, .nil⟩
  refine F.ok sc_ring (fun vs H Q E h => spA_len (fun _ => rfl) h) (fun cdv A outer s H vs Q E hr h => ?_)
  refine ⟨_, (pss_cons (ps_set (i := 1) sc_ring.nd rfl (.inl rfl) (pe_c C_parts_by_name hr (by first | decide | omega) (by rfl) (pa_cons (pv 0) pa_nil)))
    (pss_cons (ps_set (i := 2) sc_ring.nd rfl (.inr rfl) (pe_c C_without_ends hr (by first | decide | omega) (by rfl) (pa_cons (pv 1) pa_nil)))
    (pss_cons (ps_if (pt_cmpR (op_eqD hr.units) (pv 2) (pe_lst pa_nil) (nomark _))
    (pss_one (ps_ret pe_non))
    pss_nil)
    (pss_cons (ps_set (i := 3) sc_ring.nd rfl (.inl rfl) (pe_lst (pa_cons (pe_ix ix_list (pv 2) pe_int (fun _ _ => rfl)) pa_nil)))
    (pss_one (ps_while PassesOwn.never (pt_val pe_bl)
    (pss_cons (ps_set (i := 4) sc_ring.nd rfl (.inl rfl) (pe_ix ix_list (pe_lc (own := [("part", 5)]) rfl sc_ring.nd (pi_list (pe_dget (hu_of hr) (pv 1) (pe_ix ix_list (pv 3) (pe_un un_neg pe_int) (fun _ _ => rfl)) (fun _ _ => rfl))) (blkOk_by (N := N_ring) (sc := defScope s_ring) (by decide +kernel)) (fun _ _ _ _ _ => (pg_name (i := 5) sc_ring.nd rfl (.inl rfl))) (fun _ _ _ _ _ => (pts_one (pt_cmpR (show OpR _ _ (rIn K false) from op_in_seq) (pv 5) (pv 2) (by rfl)))) (fun _ _ _ _ _ => (pv 5))) pe_int (fun _ _ => rfl)))
      (pss_cons (ps_if (pt_cmpR op_in_seq (pv 4) (pv 3) (by rfl))
      (pss_one (ps_ret (pe_slice sl_list (pv 3) (po_some (pe_bm PySem.F.plainAttrs_list PySem.F.slot_list_index PySem.F.type_list_index mt_index (pv 3) (pa_cons (pv 4) pa_nil))) po_none)))
      pss_nil)
      (pss_one (ps_expr (pe_bm PySem.F.plainAttrs_list PySem.F.slot_list_append PySem.F.type_list_append mt_append (pv 3) (pa_cons (pv 4) pa_nil)))))))))))), ?_⟩
  try dsimp only [cxOf, Cx.nox, Cx.wish]
  refine run_def (N := N_ring) (fun _ => Nat.le_of_ble_eq_true rfl) (env0 := fun s : Shop => [.p (shopD s), .u, .u, .u, .u, .u]) (fun _ => rfl) (fun B s hp L => ?_) h
  repeat walk_at "v"
  walk_at "c"
  repeat walk_at "v"
  refine ⟨s, rfl, hp.ok, fun _ h => h, ?_⟩
  rintro _ rfl
  repeat walk_at "v"
  walk_at "c"
  repeat walk_at "v"
  refine ⟨partsOf s, rfl, tabOk_of hp.ok, fun _ h => h, ?_⟩
  rintro _ ⟨L1, rfl, hc⟩
  repeat walk_at "v"
  have hnil := core_nil hc hp.ac
  subst hnil
  refine vs_if ?_
  repeat walk_at "v"
  refine vo_eqS (d := .lst []) rfl rfl rfl ?_
  repeat walk_at "v"
  refine and_t rfl ?_
  repeat walk_at "v"
  exact ⟨rfl, rfl⟩

end
/-! ### check_rings -/
abbrev s_check_rings : Stmt := topS 8
abbrev N_check_rings : List Str := ["shop"]
theorem sc_check_rings : FnScope N_check_rings ["shop"] (defScope s_check_rings) := ⟨rfl, rfl, rfl, by decide +kernel, rfl, by decide +kernel, by decide +kernel⟩
section
variable {P : Program} {w : World} {K : PySem.W.Frag} {mg : Str → Option Value} {base : Heap}
abbrev sp_check_rings (K : PySem.W.Frag) : Sp := SpA K (Gd K) false (fun s : Shop => [shopD s]) (fun s => ShopA s) (fun _ d => d = .non) noRs
theorem c_check_rings (Dn : Dfn K mg "check_rings" s_check_rings ["shop"]) (Z : Glb K mg) (C_ring : Cal P w K mg base 2 "ring" (sp_ring K) []) : Cal P w K mg base 3 "check_rings" (sp_check_rings K) [] := by
  obtain ⟨f, fd, F, hm, hb⟩ := Dn.ex
  refine ⟨f, fd, ["shop"], [], ?_, hm, F.kp, hb, .nil⟩
  refine F.ok sc_check_rings (fun vs H Q E h => spA_len (fun _ => rfl) h) (fun cdv A outer s H vs Q E hr h => ?_)
  refine ⟨_, (pss_one (ps_if (pt_cmpR op_notN (pe_c C_ring hr (by first | decide | omega) (by rfl) (pa_cons (pv 0) pa_nil)) pe_non (nomark _))
    (pss_one ps_dead)
    pss_nil)), ?_⟩
  try dsimp only [cxOf, Cx.nox, Cx.wish]
  refine run_def (N := N_check_rings) (fun _ => Nat.le_of_ble_eq_true rfl) (env0 := fun s : Shop => [.p (shopD s)]) (fun _ => rfl) (fun B s hp L => ?_) h
  refine vs_if ?_
  repeat walk_at "v"
  walk_at "c"
  repeat walk_at "v"
  refine ⟨s, rfl, hp, fun _ h => h, ?_⟩
  rintro _ rfl
  repeat walk_at "v"
  refine and_f rfl ?_
  repeat walk_at "v"
  exact ⟨rfl, rfl⟩

end
/-! ### levels -/
abbrev s_levels : Stmt := topS 9
abbrev N_levels : List Str := ["shop", "parts", "found", "name", "turn", "part"]
theorem sc_levels : FnScope N_levels ["shop"] (defScope s_levels) := ⟨rfl, rfl, rfl, by decide +kernel, rfl, by decide +kernel, by decide +kernel⟩
theorem noD_shop (s : Shop) : D.noD 9 (shopD s) = true := by
  have h1 : ∀ w : Ware, D.noD 7 (wareD w) = true := fun w => by
    show ([D.str w.nm, .int w.lag, .int w.gives, .int w.floor, .int w.stock, .tup (w.com.map pairD), .tup (w.parts.map partD)].all (D.noD 6)) = true
    have e1 : D.noD 6 (.tup (w.com.map pairD)) = true := noD_map (n := 5) (fun _ => rfl) w.com
    have e2 : D.noD 6 (.tup (w.parts.map partD)) = true := noD_map (n := 5) (fun _ => rfl) w.parts
    simp only [List.all_cons, List.all_nil, e1, e2, Bool.and_true]
    rfl
  show ([D.tup (s.ws.map wareD), .tup (s.wants.map wantD)].all (D.noD 8)) = true
  have e1 : D.noD 8 (.tup (s.ws.map wareD)) = true := noD_map (n := 7) h1 s.ws
  have e2 : D.noD 8 (.tup (s.wants.map wantD)) = true := noD_map (n := 7) (fun _ => rfl) s.wants
  simp only [List.all_cons, List.all_nil, e1, e2, Bool.and_true]
theorem noD_tab (t : List (Str × List Str)) : ((sdD strsD t).all fun p => D.noD 9 p.2) = true := by
  unfold sdD
  rw [List.all_map]
  exact List.all_eq_true.mpr fun p _ => noD_strs 7 p.2
theorem noD_fn (ns : List Str) (f : Str → Int) : ((sdD D.int (fnS ns f)).all fun p => D.noD 9 p.2) = true := by
  unfold sdD
  rw [List.all_map]
  exact List.all_eq_true.mpr fun p _ => rfl
section
variable {P : Program} {w : World} {K : PySem.W.Frag} {mg : Str → Option Value} {base : Heap}
abbrev sp_levels (K : PySem.W.Frag) : Sp := SpA K (Gd K) true (fun s : Shop => [shopD s]) (fun s => ShopA s) (fun s d => d = .dct (sdD D.int (fnS s.names (levF (partsOf s))))) noRs
theorem c_levels (Dn : Dfn K mg "levels" s_levels ["shop"]) (Z : Glb K mg) (C_parts_by_name : Cal P w K mg base 1 "parts_by_name" (sp_parts_by_name K) []) (C_check_rings : Cal P w K mg base 3 "check_rings" (sp_check_rings K) []) : Cal P w K mg base 4 "levels" (sp_levels K) [] := by
  obtain ⟨f, fd, F, hm, hb⟩ := Dn.ex
  refine ⟨f, fd, ["shop"], [], ?_, hm, F.kp, hb, .nil⟩
  refine F.ok sc_levels (fun vs H Q E h => spA_len (fun _ => rfl) h) (fun cdv A outer s H vs Q E hr h => ?_)
  refine ⟨_, (pss_cons (ps_expr (pe_c C_check_rings hr (by first | decide | omega) (by rfl) (pa_cons (pv 0) pa_nil)))
    (pss_cons (ps_set (i := 1) sc_levels.nd rfl (.inl rfl) (pe_c C_parts_by_name hr (by first | decide | omega) (by rfl) (pa_cons (pv 0) pa_nil)))
    (pss_cons (ps_set (i := 2) sc_levels.nd rfl (.inl rfl) pe_dnewK)
    (pss_cons (ps_lock (ps_for PassesOwn.never rfl (pi_keys (pv 1)) (pg_name (i := 3) sc_levels.nd rfl (.inl rfl))
    (pss_one (ps_dput (hu_of hr) (pv 2) (pv 3) pe_int rfl))))
    (pss_cons (ps_for PassesOwn.never rfl (pi_range1 (by rfl) Z.b_range (pa_cons (pe_callB call_lenD (by rfl) Z.b_len PySem.boot_len (pa_cons (pv 1) pa_nil)) pa_nil)) (pg_name (i := 4) sc_levels.nd rfl (.inl rfl))
    (pss_one (ps_lock (ps_for PassesOwn.never rfl (pi_keys (pv 1)) (pg_name (i := 3) sc_levels.nd rfl (.inl rfl))
      (pss_one (ps_for PassesOwn.never rfl (pi_list (pe_dget (hu_of hr) (pv 1) (pv 3) (fun _ _ => rfl))) (pg_name (i := 5) sc_levels.nd rfl (.inl rfl))
        (pss_one (ps_dput (hu_of hr) (pv 2) (pv 5) (pe_callB (call_max2 rfl) (by rfl) Z.b_max (by decide +kernel) (pa_cons (pe_dget (hu_of hr) (pv 2) (pv 5) (fun _ _ => rfl)) (pa_cons (pe_op op_add (pe_dget (hu_of hr) (pv 2) (pv 3) (fun _ _ => rfl)) pe_int) pa_nil))) rfl))))))))
    (pss_one (ps_ret (pv 2)))))))), ?_⟩
  try dsimp only [cxOf, Cx.nox, Cx.wish]
  refine run_def (N := N_levels) (fun _ => Nat.le_of_ble_eq_true rfl) (env0 := fun s : Shop => [.p (shopD s), .u, .u, .u, .u, .u]) (fun _ => rfl) (fun B s hp L => ?_) h
  have hkeys := partsOf_keys s
  have hn := hp.ok.n
  have hnl : s.names.length = s.ws.length := by unfold Shop.names; rw [List.length_map]
  have htl : (partsOf s).length = s.ws.length := by unfold partsOf; rw [List.length_map]
  have hsub : ∀ x ps, (x, ps) ∈ partsOf s → ∀ p ∈ ps, p ∈ s.names := fun x ps h p hps => by
    obtain ⟨w, hw, e⟩ := List.mem_map.mp h
    cases e
    obtain ⟨q, hq, rfl⟩ := List.mem_map.mp hps
    exact hp.ok.sub w hw q hq
  have tok := tabOk_of hp.ok
  have hlv := levels_ok hp.ac
  have ekeys : (sdD strsD (partsOf s)).map (fun p => keyD p.1) = s.names.map D.str := by
    unfold sdD
    rw [List.map_map, ← hkeys, List.map_map]
    rfl
  have hnd := hp.ok.nd
  have noT : ∀ i f, Slot.noD (.mu (.dct (sdD D.int (fnS i f)))) = true := fun i f => noD_fn i f
  repeat walk_at "v"
  walk_at "c"
  repeat walk_at "v"
  refine ⟨s, rfl, hp, fun _ h => h, ?_⟩
  rintro _ rfl
  repeat walk_at "v"
  (with_reducible refine ve_callD lets_none ?_)
  repeat walk_at "v"
  refine ⟨s, rfl, hp.ok, fun _ h => h, ?_⟩
  rintro _ rfl
  refine ⟨_, rfl, noD_tab _, ?_⟩
  repeat walk_at "v"
  refine vs_lockM (i := 1) rfl fun a => ?_
  refine vs_for (vi_keys ?_)
  repeat walk_at "v"
  refine ⟨a, _, rfl, ?_⟩
  rw [ekeys]
  refine ⟨fun i e => ∃ x3, e = [.p (shopD s), .p (.lkd a (sdD strsD (partsOf s))), .mu (.dct (sdD D.int (fnS (s.names.take i) fun _ => 0))), x3, .u, .u] ∧ x3.noD = true, ⟨.u, rfl, rfl⟩, ?_, ?_⟩
  · rintro i d e hi ⟨x3, rfl, h3⟩
    obtain ⟨x, hx, rfl⟩ := map_get hi
    have hnew : x ∉ (fnS (s.names.take i) fun _ => (0 : Int)).map (·.1) := by
      rw [fnS_keys]
      intro z
      obtain ⟨j, hj⟩ := List.getElem?_of_mem z
      rw [List.getElem?_take] at hj
      split at hj
      · rename_i hji
        have := (List.getElem?_inj (lt_of_get hj) hnd).mp (hj.trans hx.symm)
        omega
      · cases hj
    repeat walk_at "v"
    refine vs_dput rfl ?_
    repeat walk_at "v"
    refine ⟨_, rfl, ?_⟩
    repeat walk_at "v"
    refine ⟨.inr x, rfl, ?_, ?_⟩
    · unfold sdD fnS
      rw [List.length_map, List.length_map, List.length_take]
      omega
    · have h5 : putD (sdD D.int (fnS (s.names.take i) fun _ => 0)) (.inr x) (.int 0) = sdD D.int (fnS (s.names.take i) (fun _ => 0) ++ [(x, 0)]) := putD_newS D.int hnew
      have h6 : fnS (s.names.take (i + 1)) (fun _ => (0 : Int)) = fnS (s.names.take i) (fun _ => 0) ++ [(x, 0)] := by
        unfold fnS
        rw [take_one hx, List.map_append]
        rfl
      rw [h5, ← h6]
      exact ⟨_, rfl, rfl⟩
  · rintro e ⟨x3, rfl, h3⟩
    rw [List.length_map, List.take_length]
    refine ⟨unl_of rfl ?_, ?_⟩
    · simp only [List.set, List.all_cons, List.all_nil, h3, noT, Bool.and_true, Bool.true_and, show Slot.noD (.p (shopD s)) = true from noD_shop s]
      rfl
    · repeat walk_at "v"
      refine vs_for (vi_range1 ?_)
      repeat walk_at "v"
      refine vc_lenD rfl ?_
      repeat walk_at "v"
      have hlen : (sdD strsD (partsOf s)).length = s.ws.length := by unfold sdD; rw [List.length_map, htl]
      rw [hlen]
      refine ⟨_, rfl, ⟨by omega, by omega⟩, fun k e => ∃ (f : Str → Int) (x3 x4 x5 : Slot), e = [.p (shopD s), .mu (.dct (sdD strsD (partsOf s))), .mu (.dct (sdD D.int (fnS s.names f))), x3, x4, x5] ∧ x3.noD = true ∧ x5.noD = true ∧ Relax (partsOf s) k f,
        ⟨fun _ => 0, x3, .u, .u, rfl, h3, rfl, ⟨fun x => Int.le_refl _, fun x => (hlv.nn x).1⟩⟩, ?_, ?_⟩
      · rintro k d e hk ⟨f, x3, x4, x5, rfl, h3, h5, hR⟩
        obtain ⟨hk2, rfl⟩ := rangeD_get hk
        repeat walk_at "v"
        refine vs_lockM (i := 1) rfl fun a => ?_
        refine vs_for (vi_keys ?_)
        repeat walk_at "v"
        refine ⟨a, _, rfl, ?_⟩
        rw [ekeys]
        refine ⟨fun i e => ∃ (f : Str → Int) (x3 x5 : Slot), e = [.p (shopD s), .p (.lkd a (sdD strsD (partsOf s))), .mu (.dct (sdD D.int (fnS s.names f))), x3, .p (.int (0 + (k : Nat))), x5] ∧ x3.noD = true ∧ x5.noD = true ∧ Relax (partsOf s) k f ∧ (∀ (j : Nat) y ps, j < i → (partsOf s)[j]? = some (y, ps) → ∀ x ∈ ps, ((lvl (partsOf s) k y : Nat) : Int) + 1 ≤ f x),
          ⟨f, x3, x5, rfl, h3, h5, hR, fun j y ps h => absurd h (Nat.not_lt_zero _)⟩, ?_, ?_⟩
        · rintro i d e hi ⟨f, x3, x5, rfl, h3, h5, hR, hE⟩
          obtain ⟨nm, hnm, rfl⟩ := map_get hi
          have hnmem := List.mem_of_getElem? hnm
          obtain ⟨ps, hps⟩ : ∃ ps, (partsOf s)[i]? = some (nm, ps) := by
            rw [← hkeys, List.getElem?_map] at hnm
            cases e : (partsOf s)[i]? with
            | none => rw [e] at hnm; cases hnm
            | some p =>
              rw [e] at hnm
              cases hnm
              exact ⟨p.2, rfl⟩
          have hpm := List.mem_of_getElem? hps
          have hget : getS (partsOf s) nm = some ps := getS_of (by rw [hkeys]; exact hnd) hpm
          repeat walk_at "v"
          refine vs_for (vi_l ?_)
          repeat walk_at "v"
          refine ⟨_, .inr nm, _, rfl, rfl, by rw [valD_S, hget]; rfl, ?_⟩
          repeat walk_at "v"
          refine ⟨_, rfl, fun m e => ∃ (f : Str → Int) (x5 : Slot), e = [.p (shopD s), .p (.lkd a (sdD strsD (partsOf s))), .mu (.dct (sdD D.int (fnS s.names f))), .p (.str nm), .p (.int (0 + (k : Nat))), x5] ∧ x5.noD = true ∧ Relax (partsOf s) k f ∧ (∀ (j : Nat) y ps, j < i → (partsOf s)[j]? = some (y, ps) → ∀ x ∈ ps, ((lvl (partsOf s) k y : Nat) : Int) + 1 ≤ f x) ∧ (∀ x ∈ ps.take m, ((lvl (partsOf s) k nm : Nat) : Int) + 1 ≤ f x),
            ⟨f, x5, rfl, h5, hR, hE, fun x hx => by simp at hx⟩, ?_, ?_⟩
          · rintro m d e hm ⟨f, x5, rfl, h5, hR, hE, hP⟩
            obtain ⟨pt, hpt, rfl⟩ := map_get hm
            have hptm := List.mem_of_getElem? hpt
            have hptn := hsub nm ps hpm pt hptm
            repeat walk_at "v"
            refine vs_dput rfl ?_
            repeat walk_at "v"
            refine ⟨_, .inr pt, _, rfl, rfl, by rw [valD_S, getS_fn hptn]; rfl, ?_⟩
            repeat walk_at "v"
            refine ⟨_, .inr nm, _, rfl, rfl, by rw [valD_S, getS_fn hnmem]; rfl, ?_⟩
            repeat walk_at "v"
            refine ⟨_, rfl, ?_⟩
            repeat walk_at "v"
            refine ⟨.inr pt, rfl, ?_, ?_⟩
            · unfold sdD fnS
              rw [List.length_map, List.length_map]
              omega
            · have h7 : putD (sdD D.int (fnS s.names f)) (.inr pt) (.int (max (f pt) (f nm + 1))) = sdD D.int (fnS s.names fun y => if y = pt then max (f pt) (f nm + 1) else f y) := by
                rw [show (D.int (max (f pt) (f nm + 1))) = D.int (max (f pt) (f nm + 1)) from rfl, putD_oldS D.int (by rw [fnS_keys]; exact hptn), setS_fn]
              rw [h7]
              have hge : ∀ y, f y ≤ (if y = pt then max (f pt) (f nm + 1) else f y) := fun y => by
                by_cases e : y = pt
                · rw [if_pos e, e]
                  omega
                · rw [if_neg e]
                  exact Int.le_refl _
              refine ⟨_, .p (.str pt), rfl, rfl, ⟨fun y => Int.le_trans (hR.lo y) (hge y), fun y => ?_⟩, fun j y q hj hy x hx => Int.le_trans (hE j y q hj hy x hx) (hge x), fun x hx => ?_⟩
              · show (if y = pt then _ else _) ≤ _
                by_cases e : y = pt
                · rw [if_pos e, e]
                  have h8 := hR.hi pt
                  have h9 := hR.hi nm
                  have h10 := hlv.up nm ps hpm pt hptm
                  omega
                · rw [if_neg e]
                  exact hR.hi y
              · rw [take_one hpt] at hx
                rcases List.mem_append.mp hx with hx | hx
                · exact Int.le_trans (hP x hx) (hge x)
                · cases List.mem_singleton.mp hx
                  show _ ≤ (if pt = pt then _ else _)
                  rw [if_pos rfl]
                  have := hR.lo nm
                  omega
          · rintro e ⟨f, x5, rfl, h5, hR, hE, hP⟩
            rw [List.length_map, List.take_length] at hP
            refine ⟨f, _, x5, rfl, rfl, h5, hR, fun j y q hj hy x hx => ?_⟩
            by_cases e : j = i
            · subst e
              rw [hps] at hy
              cases hy
              exact hP x hx
            · exact hE j y q (by omega) hy x hx
        · rintro e ⟨f, x3, x5, rfl, h3, h5, hR, hE⟩
          rw [List.length_map, hnl, ← htl] at hE
          refine ⟨unl_of rfl ?_, ?_⟩
          · simp only [List.set, List.all_cons, List.all_nil, h3, h5, noT, Bool.and_true, Bool.true_and, show Slot.noD (.p (shopD s)) = true from noD_shop s]
            rfl
          · refine ⟨f, x3, _, x5, rfl, h3, h5, ⟨fun x => ?_, hR.hi⟩⟩
            rcases lvl_is (t := partsOf s) (k := k) (x := x) with e | ⟨y, ps, h1, h2, e⟩
            · rw [e]
              exact Int.le_trans (Int.natCast_nonneg _) (hR.lo x)
            · rw [e]
              obtain ⟨j, hj⟩ := List.getElem?_of_mem h1
              have := hE j y ps (lt_of_get hj) hj x h2
              omega
      · rintro e ⟨f, x3, x4, x5, rfl, h3, h5, hR⟩
        rw [rangeD_len, Int.toNat_natCast, ← htl] at hR
        have hf : fnS s.names f = fnS s.names (levF (partsOf s)) := fnS_congr fun x _ => Int.le_antisymm (hR.hi x) (hR.lo x)
        rw [hf]
        repeat walk_at "v"
        rfl

end
/-! ### worked -/
abbrev s_worked : Stmt := topS 10
abbrev N_worked : List Str := ["shop", "known", "ware"]
theorem sc_worked : FnScope N_worked ["shop"] (defScope s_worked) := ⟨rfl, rfl, rfl, by decide +kernel, rfl, by decide +kernel, by decide +kernel⟩
section
variable {P : Program} {w : World} {K : PySem.W.Frag} {mg : Str → Option Value} {base : Heap}
abbrev sp_worked (K : PySem.W.Frag) : Sp := SpA K (Gd K) true (fun s : Shop => [shopD s]) (fun s => ShopA s) (fun s d => d = strsD (workedOf s)) noRs
theorem c_worked {cT pT : Addr} (Dn : DfnC K mg "worked" s_worked ["shop"] cT) (TB : LamX.TabB base mg cT pT) (hP : PySem.W.tabIn K "worked" = some (cT, pT)) (Z : Glb K mg) (C_levels : Cal P w K mg base 4 "levels" (sp_levels K) []) : Cal P w K mg base 5 "worked" (sp_worked K) [] := by
  obtain ⟨f, fd, F, hm, hb⟩ := Dn.ex
  refine ⟨f, fd, ["shop"], [], ?_, hm, F.kp, hb, .nil⟩
  refine F.ok sc_worked (fun vs H Q E h => spA_len (fun _ => rfl) h) (fun A outer s H vs Q E hr h => ?_)
  refine ⟨_, (pss_cons (ps_set (i := 1) sc_worked.nd rfl (.inr rfl) (pe_c C_levels hr (by first | decide | omega) (by rfl) (pa_cons (pv 0) pa_nil)))
    (pss_one (ps_ret (pe_sortBy (P := pT) (c := cT) (i := 1) hr (by rfl) Z.b_sorted (pe_lc (own := [("ware", 2)]) rfl sc_worked.nd (pi_tup (pe_ix ix_tup (pv 0) pe_int (fun _ _ => rfl))) (blkOk_by (N := N_worked) (sc := defScope s_worked) (by decide +kernel)) (fun _ _ _ _ _ => (pg_name (i := 2) sc_worked.nd rfl (.inl rfl))) (fun _ _ _ _ _ => pts_nil) (fun _ _ _ _ _ => (pe_ix (show IxR _ (rIxT K) from ix_tup) (pv 2) pe_int (fun _ _ => rfl)))) TB rfl (show lamName = ("worked.<locals>." : Str) ++ "<lambda>" by decide +kernel) rfl rfl rfl (by decide) rfl rfl rfl rfl rfl (by decide +kernel) (by decide +kernel) (fun _ _ _ _ _ => rfl))))), ?_⟩
  try dsimp only [cxOf, Cx.nox, Cx.wish]
  refine run_def (N := N_worked) (fun _ => Nat.le_of_ble_eq_true rfl) (env0 := fun s : Shop => [.p (shopD s), .u, .u]) (fun _ => rfl) (fun B s hp L => ?_) h
  have hn := hp.ok.n
  have hnl : s.names.length = s.ws.length := by unfold Shop.names; rw [List.length_map]
  repeat walk_at "v"
  walk_at "c"
  repeat walk_at "v"
  refine ⟨s, rfl, hp, fun _ h => h, ?_⟩
  rintro _ rfl
  repeat walk_at "v"
  refine ve_sortBy (by rw [show (Gd K).tab = (PySem.W.tabIn K "worked").map (·.2) from rfl, hP]; rfl) ?_
  refine ve_lc (hu1 rfl) (only_name (by decide)) (vi_tup ?_)
  repeat walk_at "v"
  refine vo_ixT (d := .tup (s.ws.map wareD)) (atI_nat (j := 0) rfl) ?_
  refine ⟨_, rfl, by rw [List.length_map]; omega, fun j acc => acc = ((s.ws.take j).map fun w => w.nm).map D.str, rfl, ?_, ?_⟩
  · rintro q j d acc hj rfl
    obtain ⟨w, hw, rfl⟩ := map_get hj
    repeat walk_at "v"
    refine ⟨.set .refl (by decide), ?_⟩
    repeat walk_at "v"
    refine and_t rfl ?_
    repeat walk_at "v"
    refine vo_ixT (d := .str w.nm) (atI_nat (j := 0) rfl) ?_
    repeat walk_at "v"
    refine ⟨_, rfl, ?_⟩
    show _ = List.map _ (List.map _ (List.take (j + 1) _))
    rw [take_one hw, List.map_append, List.map_append]
    rfl
  · rintro acc rfl
    rw [List.length_map, List.take_length]
    repeat walk_at "v"
    refine ⟨s.names, sdD D.int (fnS s.names (levF (partsOf s))), levF (partsOf s), rfl, .inl rfl, fun z hz => ?_, by omega, ?_⟩
    · rw [valD_S, getS_fn hz]
      rfl
    · exact rfl

end
/-! ### wanted_of -/
abbrev s_wanted_of : Stmt := topS 24
abbrev N_wanted_of : List Str := ["shop", "name", "other", "day", "amount"]
theorem sc_wanted_of : FnScope N_wanted_of ["shop", "name"] (defScope s_wanted_of) := ⟨rfl, rfl, rfl, by decide +kernel, rfl, by decide +kernel, by decide +kernel⟩
section
variable {P : Program} {w : World} {K : PySem.W.Frag} {mg : Str → Option Value} {base : Heap}
abbrev sp_wanted_of (K : PySem.W.Frag) : Sp := SpA K (Gd K) false (fun x : Shop × Str => [shopD x.1, .str x.2]) (fun x => x.1.wants.length ≤ 1000) (fun x d => d = .int (wantAll x.1.wants x.2)) noRs
theorem c_wanted_of (Dn : Dfn K mg "wanted_of" s_wanted_of ["shop", "name"]) (Z : Glb K mg)  : Cal P w K mg base 1 "wanted_of" (sp_wanted_of K) [] := by
  obtain ⟨f, fd, F, hm, hb⟩ := Dn.ex
  refine ⟨f, fd, ["shop", "name"], [], ?_, hm, F.kp, hb, .nil⟩
  refine F.ok sc_wanted_of (fun vs H Q E h => spA_len (fun _ => rfl) h) (fun cdv A outer s H vs Q E hr h => ?_)
  refine ⟨_, (pss_one (ps_ret (pe_callB (cr_sum rfl) (by rfl) Z.b_sum (by decide +kernel) (pa_cons (pe_lc (own := [("other", 2), ("day", 3), ("amount", 4)]) rfl sc_wanted_of.nd (pi_tup (pe_ix ix_tup (pv 0) pe_int (fun _ _ => rfl))) (blkOk_by (N := N_wanted_of) (sc := defScope s_wanted_of) (by decide +kernel)) (fun _ _ _ _ _ => (show PG _ _ (gTup K 3 _) from pg_tup rfl (pgs_cons (pg_name (i := 2) sc_wanted_of.nd rfl (.inl rfl)) (pgs_cons (pg_name (i := 3) sc_wanted_of.nd rfl (.inl rfl)) (pgs_cons (pg_name (i := 4) sc_wanted_of.nd rfl (.inl rfl)) pgs_nil))))) (fun _ _ _ _ _ => (pts_one (pt_cmpR op_eq (pv 2) (pv 1) (nomark _)))) (fun _ _ _ _ _ => (pv 4))) pa_nil)))), ?_⟩
  try dsimp only [cxOf, Cx.nox, Cx.wish]
  refine run_def (N := N_wanted_of) (fun _ => Nat.le_of_ble_eq_true rfl) (env0 := fun x : Shop × Str => [.p (shopD x.1), .p (.str x.2), .u, .u, .u]) (fun _ => rfl) (fun B x hp L => ?_) h
  obtain ⟨s, nm⟩ := x
  dsimp only at hp ⊢
  repeat walk_at "v"
  refine ve_lc (hu3 rfl rfl rfl) (only_tup (only_cons (only_name (by decide)) (only_cons (only_name (by decide)) (only_cons (only_name (by decide)) only_nil)))) (vi_tup ?_)
  repeat walk_at "v"
  refine vo_ixT (d := .tup (s.wants.map wantD)) (atI_nat (j := 1) rfl) ?_
  refine ⟨_, rfl, by rw [List.length_map]; omega, fun j acc => acc = (((s.wants.take j).filter fun w => decide (w.1 = nm)).map fun w => w.2.2).map D.int, rfl, ?_, ?_⟩
  · rintro q j d acc hj rfl
    obtain ⟨⟨wn, day, am⟩, hw, ed⟩ := map_get hj
    have ed2 : d = .tup [.str wn, .int day, .int am] := ed
    subst ed2
    have hs : (s.wants.take (j + 1)).filter (fun w => decide (w.1 = nm)) = (s.wants.take j).filter (fun w => decide (w.1 = nm)) ++ (if wn = nm then [(wn, day, am)] else []) := by
      rw [take_one hw, List.filter_append]
      congr 1
      by_cases q : wn = nm
      · rw [if_pos q]
        simp [q]
      · rw [if_neg q]
        simp [q]
    repeat walk_at "v"
    refine ⟨.set (.set (.set .refl (by decide)) (by decide)) (by decide), ?_⟩
    repeat walk_at "v"
    refine ⟨fun hb => ?_, fun hb => ?_⟩
    · repeat walk_at "v"
      refine ⟨_, rfl, ?_⟩
      show _ = List.map _ (List.map _ (List.filter _ (List.take (j + 1) _)))
      rw [hs, if_pos (of_decide_eq_true hb), List.map_append, List.map_append]
      rfl
    · show _ = List.map _ (List.map _ (List.filter _ (List.take (j + 1) _)))
      rw [hs, if_neg (of_decide_eq_false hb), List.append_nil]
  · rintro acc rfl
    rw [List.length_map, List.take_length]
    repeat walk_at "v"
    refine vc_sum rfl ?_
    exact ⟨rfl, rfl⟩

end
/-! ### ware_of -/
abbrev s_ware_of : Stmt := topS 16
abbrev N_ware_of : List Str := ["shop", "name", "ware"]
theorem sc_ware_of : FnScope N_ware_of ["shop", "name"] (defScope s_ware_of) := ⟨rfl, rfl, rfl, by decide +kernel, rfl, by decide +kernel, by decide +kernel⟩
section
variable {P : Program} {w : World} {K : PySem.W.Frag} {mg : Str → Option Value} {base : Heap}
abbrev sp_ware_of (K : PySem.W.Frag) : Sp := SpA K (Gd K) false (fun x : Shop × Ware => [shopD x.1, .str x.2.nm]) (fun x => x.1.names.Nodup ∧ x.2 ∈ x.1.ws) (fun x d => d = wareD x.2) noRs
theorem c_ware_of (Dn : Dfn K mg "ware_of" s_ware_of ["shop", "name"]) (Z : Glb K mg)  : Cal P w K mg base 1 "ware_of" (sp_ware_of K) [] := by
  obtain ⟨f, fd, F, hm, hb⟩ := Dn.ex
  refine ⟨f, fd, ["shop", "name"], [], ?_, hm, F.kp, hb, .nil⟩
  refine F.ok sc_ware_of (fun vs H Q E h => spA_len (fun _ => rfl) h) (fun cdv A outer s H vs Q E hr h => ?_)
  refine ⟨_, (pss_cons (ps_for PassesOwn.never rfl (pi_tup (pe_ix ix_tup (pv 0) pe_int (fun _ _ => rfl))) (pg_name (i := 2) sc_ware_of.nd rfl (.inl rfl))
    (pss_one (ps_if (pt_cmpR op_eq (pe_ix ix_tup (pv 2) pe_int (fun _ _ => rfl)) (pv 1) (nomark _))
      (pss_one (ps_ret (pv 2)))
      pss_nil)))
    (pss_one ps_dead)), ?_⟩
  try dsimp only [cxOf, Cx.nox, Cx.wish]
  refine run_def (N := N_ware_of) (fun _ => Nat.le_of_ble_eq_true rfl) (env0 := fun x : Shop × Ware => [.p (shopD x.1), .p (.str x.2.nm), .u]) (fun _ => rfl) (fun B x hp L => ?_) h
  obtain ⟨s, w⟩ := x
  obtain ⟨nd, hw⟩ := hp
  dsimp only at nd hw ⊢
  repeat walk_at "v"
  refine vs_for (vi_tup ?_)
  repeat walk_at "v"
  refine vo_ixT (atI_nat (j := 0) rfl) ?_
  repeat walk_at "v"
  refine ⟨_, rfl, fun i e => ∃ x, e = [.p (shopD s), .p (.str w.nm), x] ∧ ∀ v ∈ s.ws.take i, v.nm ≠ w.nm, ⟨.u, rfl, fun v hv => by simp at hv⟩, ?_, ?_⟩
  · rintro i d e hi ⟨x, rfl, hn⟩
    obtain ⟨v, hv, rfl⟩ := map_get hi
    have hvm := List.mem_of_getElem? hv
    repeat walk_at "v"
    refine vs_if ?_
    repeat walk_at "v"
    refine vo_ixT (d := .str v.nm) (atI_nat (j := 0) rfl) ?_
    repeat walk_at "v"
    refine ⟨fun hb => ?_, fun hb => ?_⟩
    · have e := ware_uniq nd hvm hw (of_decide_eq_true hb)
      subst e
      repeat walk_at "v"
      exact ⟨rfl, rfl⟩
    · repeat walk_at "v"
      refine ⟨_, rfl, fun u hu => ?_⟩
      rw [take_one hv] at hu
      rcases List.mem_append.mp hu with hu | hu
      · exact hn u hu
      · cases List.mem_singleton.mp hu
        exact of_decide_eq_false hb
  · rintro e ⟨x, rfl, hn⟩
    rw [List.length_map, List.take_length] at hn
    exact absurd rfl (hn w hw)

end
/-! ### explode -/
abbrev s_explode : Stmt := topS 25
abbrev N_explode : List Str := ["shop", "order", "needed", "name", "found", "ware", "part", "amount"]
theorem sc_explode : FnScope N_explode ["shop"] (defScope s_explode) := ⟨rfl, rfl, rfl, by decide +kernel, rfl, by decide +kernel, by decide +kernel⟩
section
variable {P : Program} {w : World} {K : PySem.W.Frag} {mg : Str → Option Value} {base : Heap}
abbrev sp_explode (K : PySem.W.Frag) : Sp := SpA K (Gd K) true (fun s : Shop => [shopD s]) (fun s => ShopG s ∧ Acyclic (partsOf s)) (fun s d => ∃ f, d = .dct (sdD D.int (fnS (workedOf s) f)) ∧ ExplTo s s.names f ∧ ∀ x ∈ s.names, 0 ≤ f x ∧ f x ≤ bigM 13) noRs
theorem c_explode (Dn : Dfn K mg "explode" s_explode ["shop"]) (Z : Glb K mg) (C_ware_of : Cal P w K mg base 1 "ware_of" (sp_ware_of K) []) (C_wanted_of : Cal P w K mg base 1 "wanted_of" (sp_wanted_of K) []) (C_worked : Cal P w K mg base 5 "worked" (sp_worked K) []) : Cal P w K mg base 6 "explode" (sp_explode K) [] := by
  obtain ⟨f, fd, F, hm, hb⟩ := Dn.ex
  refine ⟨f, fd, ["shop"], [], ?_, hm, F.kp, hb, .nil⟩
  refine F.ok sc_explode (fun vs H Q E h => spA_len (fun _ => rfl) h) (fun cdv A outer s H vs Q E hr h => ?_)
  refine ⟨_, (pss_cons (ps_set (i := 1) sc_explode.nd rfl (.inl rfl) (pe_c C_worked hr (by first | decide | omega) (by rfl) (pa_cons (pv 0) pa_nil)))
    (pss_cons (ps_set (i := 2) sc_explode.nd rfl (.inl rfl) pe_dnewK)
    (pss_cons (ps_for PassesOwn.never rfl (pi_list (pv 1)) (pg_name (i := 3) sc_explode.nd rfl (.inl rfl))
    (pss_one (ps_dput (hu_of hr) (pv 2) (pv 3) (pe_c C_wanted_of hr (by first | decide | omega) (by rfl) (pa_cons (pv 0) (pa_cons (pv 3) pa_nil))) rfl)))
    (pss_cons (ps_set (i := 4) sc_explode.nd rfl (.inl rfl) pe_dnewK)
    (pss_cons (ps_for PassesOwn.never rfl (pi_list (pv 1)) (pg_name (i := 3) sc_explode.nd rfl (.inl rfl))
    (pss_cons (ps_set (i := 5) sc_explode.nd rfl (.inl rfl) (pe_c C_ware_of hr (by first | decide | omega) (by rfl) (pa_cons (pv 0) (pa_cons (pv 3) pa_nil))))
      (pss_cons (ps_dput (hu_of hr) (pv 4) (pv 3) (pe_un un_neg (pe_op op_fdivW (pe_un un_neg (pe_dget (hu_of hr) (pv 2) (pv 3) (fun _ _ => rfl))) (pe_ix ix_tup (pv 5) pe_int (fun _ _ => rfl)))) rfl)
      (pss_one (ps_for PassesOwn.never rfl (pi_tup (pe_ix ix_tup (pv 5) pe_int (fun _ _ => rfl))) (pg_tup rfl (pgs_cons (pg_name (i := 6) sc_explode.nd rfl (.inl rfl)) (pgs_cons (pg_name (i := 7) sc_explode.nd rfl (.inl rfl)) pgs_nil)))
      (pss_one (ps_daug (hu_of hr) (pv 2) (pv 6) (pe_op (op_mul.or op_mulW) (pe_dget (hu_of hr) (pv 4) (pv 3) (fun _ _ => rfl)) (pv 7)) in_add (fun _ _ _ => rfl))))))))
    (pss_one (ps_ret (pv 4)))))))), ?_⟩
  try dsimp only [cxOf, Cx.nox, Cx.wish]
  refine run_def (N := N_explode) (fun _ => Nat.le_of_ble_eq_true rfl) (env0 := fun s : Shop => [.p (shopD s), .u, .u, .u, .u, .u, .u, .u]) (fun _ => rfl) (fun B s hp L => ?_) h
  obtain ⟨hg, hac⟩ := hp
  have hA := hg.a hac
  have h12 := hg.hi
  have hwl := worked_len s
  have nd := workedOf_nodup hg.nd
  have hlen : ∀ (l : List Str) (f : Str → Int), l.length ≤ 12 → (sdD D.int (fnS l f)).length < 100000 := fun l f hl => by
    unfold sdD fnS
    rw [List.length_map, List.length_map]
    omega
  repeat walk_at "v"
  walk_at "c"
  repeat walk_at "v"
  refine ⟨s, rfl, hA, fun _ h => h, ?_⟩
  rintro _ rfl
  repeat walk_at "v"
  refine vs_for (vi_l ?_)
  repeat walk_at "v"
  refine ⟨_, rfl, fun i e => ∃ x, e = [.p (shopD s), .p (strsD (workedOf s)), .mu (.dct (sdD D.int (fnS ((workedOf s).take i) (wantAll s.wants)))), x, .u, .u, .u, .u], ⟨.u, rfl⟩, ?_, ?_⟩
  · rintro i d e hi ⟨x, rfl⟩
    obtain ⟨z, hz, rfl⟩ := map_get hi
    repeat walk_at "v"
    refine vs_dput rfl ?_
    walk_at "c"
    repeat walk_at "v"
    refine ⟨(s, z), rfl, (by have := hg.wants.len; show s.wants.length ≤ 1000; omega), fun _ h => h, ?_⟩
    rintro _ rfl
    repeat walk_at "v"
    refine ⟨_, rfl, ?_⟩
    repeat walk_at "v"
    refine ⟨.inr z, rfl, hlen _ _ (by rw [List.length_take]; omega), ?_⟩
    have h3 : putD (sdD D.int (fnS ((workedOf s).take i) (wantAll s.wants))) (.inr z) (.int (wantAll s.wants z)) = sdD D.int (fnS ((workedOf s).take i) (wantAll s.wants) ++ [(z, wantAll s.wants z)]) := putD_newS D.int (by rw [fnS_keys]; exact not_take nd hz)
    dsimp only
    rw [h3, ← fnS_snoc, ← take_one hz]
    exact ⟨_, rfl⟩
  · rintro e ⟨x, rfl⟩
    rw [List.length_map, List.take_length]
    repeat walk_at "v"
    refine vs_for (vi_l ?_)
    repeat walk_at "v"
    refine ⟨_, rfl, fun i e => ∃ (n f : Str → Int) (x y z u : Slot), e = [.p (shopD s), .p (strsD (workedOf s)), .mu (.dct (sdD D.int (fnS (workedOf s) n))), x, .mu (.dct (sdD D.int (fnS ((workedOf s).take i) f))), y, z, u] ∧ ExplTo s ((workedOf s).take i) f ∧ (∀ x ∈ workedOf s, n x = wantAll s.wants x + takesBy s f ((workedOf s).take i) x ∧ 0 ≤ n x ∧ n x ≤ bigM (i + 1)) ∧ ∀ x ∈ (workedOf s).take i, 0 ≤ f x ∧ f x ≤ bigM 13, ⟨wantAll s.wants, fun _ => 0, x, .u, .u, .u, rfl, fun w _ hl => (by rw [List.take_zero] at hl; cases hl), fun x _ => ⟨by rw [List.take_zero]; unfold takesBy; simp, wantAll_le hg.wants (by decide) x⟩, fun x hx => by rw [List.take_zero] at hx; cases hx⟩, ?_, ?_⟩
    · rintro i d e hi ⟨n, f, x, y, z, u, rfl, he, hn, hf⟩
      obtain ⟨nm, hnm, rfl⟩ := map_get hi
      have hmw := List.mem_of_getElem? hnm
      obtain ⟨w, hw, rfl⟩ := ware_named (workedOf_mem.mp hmw)
      have hwg := hg.ws w hw
      have hi12 : i < 12 := by have := lt_of_get hnm; omega
      obtain ⟨n1, n2, n3⟩ := hn _ hmw
      have hnew := not_take nd hnm
      have hceil := ceilD_le n2 hwg.gives.1
      have hv : ceilD (n w.nm) w.gives ≤ bigM (i + 1) := Int.le_trans hceil.2 n3
      have hv13 : ceilD (n w.nm) w.gives ≤ bigM 13 := Int.le_trans hv (bigM_mono (by omega))
      repeat walk_at "v"
      walk_at "c"
      repeat walk_at "v"
      refine ⟨(s, w), rfl, ⟨hg.nd, hw⟩, fun _ h => h, ?_⟩
      rintro _ rfl
      repeat walk_at "v"
      refine vs_dput rfl ?_
      repeat walk_at "v"
      refine ⟨_, .inr w.nm, .int (n w.nm), rfl, rfl, by rw [valD_S, getS_fn hmw]; rfl, ?_⟩
      repeat walk_at "v"
      refine vo_ixT (d := .int w.gives) (atI_nat (j := 2) rfl) ?_
      repeat walk_at "v"
      · refine ⟨_, rfl, ?_⟩
        repeat walk_at "v"
        refine ⟨.inr w.nm, rfl, hlen _ _ (by rw [List.length_take]; omega), ?_⟩
        have h3 : putD (sdD D.int (fnS ((workedOf s).take i) f)) (.inr w.nm) (.int (-(-(n w.nm) / w.gives))) = sdD D.int (fnS ((workedOf s).take (i + 1)) (fun y => if y = w.nm then ceilD (n w.nm) w.gives else f y)) := by
          have h4 : putD (sdD D.int (fnS ((workedOf s).take i) f)) (.inr w.nm) (.int (-(-(n w.nm) / w.gives))) = sdD D.int (fnS ((workedOf s).take i) f ++ [(w.nm, -(-(n w.nm) / w.gives))]) := putD_newS D.int (by rw [fnS_keys]; exact hnew)
          rw [h4, take_one hnm, fnS_snoc, if_pos rfl]
          rw [show fnS ((workedOf s).take i) (fun y => if y = w.nm then ceilD (n w.nm) w.gives else f y) = fnS ((workedOf s).take i) f from fnS_congr fun y hy => by rw [if_neg fun q => hnew (by rw [← q]; exact hy)]]
          rfl
        rw [h3]
        repeat walk_at "v"
        refine vs_for (vi_tup ?_)
        repeat walk_at "v"
        refine vo_ixT (d := .tup (w.parts.map partD)) (atI_nat (j := 6) rfl) ?_
        refine ⟨_, rfl, fun j e => ∃ (z u : Slot), e = [.p (shopD s), .p (strsD (workedOf s)), .mu (.dct (sdD D.int (fnS (workedOf s) fun q => n q + ceilD (n w.nm) w.gives * partSum (w.parts.take j) q))), .p (.str w.nm), .mu (.dct (sdD D.int (fnS ((workedOf s).take (i + 1)) (fun y => if y = w.nm then ceilD (n w.nm) w.gives else f y)))), .p (wareD w), z, u], ⟨z, u, ?_⟩, ?_, ?_⟩
        · rw [show (fnS (workedOf s) fun q => n q + ceilD (n w.nm) w.gives * partSum (w.parts.take 0) q) = fnS (workedOf s) n from fnS_congr fun q _ => by
            show n q + _ * 0 = n q
            rw [Int.mul_zero, Int.add_zero]]
          rfl
        · rintro j d e hj ⟨z, u, rfl⟩
          obtain ⟨p, hpj, rfl⟩ := map_get hj
          obtain ⟨pn, am⟩ := p
          have hpm := List.mem_of_getElem? hpj
          have ham := hwg.parts _ hpm
          dsimp only at ham
          have hpw : pn ∈ workedOf s := workedOf_mem.mpr (hg.sub w hw _ hpm)
          have hm1 : w.nm ∈ (workedOf s).take (i + 1) := by rw [take_one hnm]; exact List.mem_append_right _ (List.mem_singleton.mpr rfl)
          refine vg_tup (ds := [.str pn, .int am]) rfl ?_
          repeat walk_at "v"
          refine vs_daug rfl ?_
          repeat walk_at "v"
          refine ⟨.inr pn, _, rfl, by rw [valD_S, getS_fn hpw]; rfl, hlen _ _ (by omega), ?_⟩
          repeat walk_at "v"
          refine ⟨_, .inr w.nm, .int (ceilD (n w.nm) w.gives), rfl, rfl, by rw [valD_S, getS_fn hm1, if_pos rfl]; rfl, ?_⟩
          repeat walk_at "v"
          · refine vo_I0 ?_
            refine ⟨_, rfl, .p (.str pn), .p (.int am), ?_⟩
            have h5 : putD (sdD D.int (fnS (workedOf s) fun q => n q + ceilD (n w.nm) w.gives * partSum (w.parts.take j) q)) (.inr pn) (.int ((n pn + ceilD (n w.nm) w.gives * partSum (w.parts.take j) pn) + ceilD (n w.nm) w.gives * am)) = sdD D.int (fnS (workedOf s) fun q => n q + ceilD (n w.nm) w.gives * partSum (w.parts.take (j + 1)) q) := by
              have h6 : putD (sdD D.int (fnS (workedOf s) fun q => n q + ceilD (n w.nm) w.gives * partSum (w.parts.take j) q)) (.inr pn) (.int ((n pn + ceilD (n w.nm) w.gives * partSum (w.parts.take j) pn) + ceilD (n w.nm) w.gives * am)) = sdD D.int (setS (fnS (workedOf s) fun q => n q + ceilD (n w.nm) w.gives * partSum (w.parts.take j) q) pn ((n pn + ceilD (n w.nm) w.gives * partSum (w.parts.take j) pn) + ceilD (n w.nm) w.gives * am)) := putD_oldS D.int (by rw [fnS_keys]; exact hpw)
              rw [h6, setS_fn]
              congr 1
              refine fnS_congr fun q _ => ?_
              rw [take_one hpj, partSum_snoc]
              by_cases e : q = pn
              · subst e
                rw [if_pos rfl, if_pos rfl, Int.mul_add]
                dsimp only
                omega
              · rw [if_neg e, if_neg (fun z => e z.symm), Int.add_zero]
            rw [h5]
            rfl
          · have l1 := bigM_log hceil.1 hv13
            have l2 := bigM_log (show (0 : Int) ≤ am by omega) (Int.le_trans (Int.le_of_lt ham.2) (by decide : (10 : Int) ^ 42 ≤ bigM 13))
            exact .inr (by show (ceilD (n w.nm) w.gives).natAbs.log2 + am.natAbs.log2 < 1000000; omega)
        · rintro e ⟨z, u, rfl⟩
          rw [List.length_map, List.take_length]
          refine ⟨_, fun y => if y = w.nm then ceilD (n w.nm) w.gives else f y, _, _, z, u, rfl, ?_, ?_, ?_⟩
          · intro v hvm hvl
            by_cases e : v.nm = w.nm
            · have := ware_uniq hg.nd hvm hw e
              subst this
              try dsimp only
              rw [if_pos rfl, n1]
              unfold fromNo
              rw [takes_ahead hA hnm]
              have h9 : takesBy s (fun y => if y = v.nm then ceilD (wantAll s.wants v.nm + takesBy s f s.names v.nm) v.gives else f y) s.names v.nm = takesBy s f s.names v.nm := by
                rw [← takes_ahead hA hnm, ← takes_ahead hA hnm]
                exact takesBy_congr (fun y hy => if_neg fun q => hnew (by rw [← q]; exact hy)) _
              rw [h9]
            · try dsimp only
              rw [if_neg e]
              rw [take_one hnm] at hvl
              have hvl2 : v.nm ∈ (workedOf s).take i := by
                rcases List.mem_append.mp hvl with q | q
                · exact q
                · exact absurd (List.mem_singleton.mp q) e
              rw [he v hvm hvl2]
              congr 1
              unfold fromNo
              congr 1
              obtain ⟨k, hk⟩ := List.getElem?_of_mem hvl2
              rw [List.getElem?_take] at hk
              split at hk
              · rename_i hki
                rw [← takes_ahead hA hk, ← takes_ahead hA hk]
                exact takesBy_congr (fun y hy => (if_neg fun q => hnew (by rw [← q]; exact (List.take_subset_take_left _ (Nat.le_of_lt hki)) hy)).symm) _
              · cases hk
          · intro q hq
            obtain ⟨a1, a2, a3⟩ := hn q hq
            have ps := partSum_le hwg q
            try dsimp only
            refine ⟨?_, ?_, ?_⟩
            · rw [take_one hnm, takesBy_snoc, if_pos rfl, partOf_eq hg.nd hw, a1]
              have : takesBy s (fun y => if y = w.nm then ceilD (n w.nm) w.gives else f y) ((workedOf s).take i) q = takesBy s f ((workedOf s).take i) q := takesBy_congr (fun y hy => if_neg fun q => hnew (by rw [← q]; exact hy)) _
              rw [this]
              omega
            · have := Int.mul_nonneg hceil.1 ps.1
              omega
            · exact bigM_step a3 hceil.1 hv ps.1 ps.2
          · intro q hq
            try dsimp only
            rw [take_one hnm] at hq
            by_cases e : q = w.nm
            · rw [if_pos e]
              exact ⟨hceil.1, hv13⟩
            · rw [if_neg e]
              rcases List.mem_append.mp hq with hq | hq
              · exact hf q hq
              · exact absurd (List.mem_singleton.mp hq) e
      · exact ⟨by have := hwg.gives.1; omega, by
          have := bigM_log (show (0 : Int) ≤ w.gives by have := hwg.gives.1; omega) (Int.le_trans (Int.le_of_lt hwg.gives.2) (by decide : (10 : Int) ^ 42 ≤ bigM 13))
          omega⟩
    · rintro e ⟨n, f, x, y, z, u, rfl, he, hn, hf⟩
      have el : ((workedOf s).take (List.map D.str (workedOf s)).length) = workedOf s := by rw [List.length_map, List.take_length]
      rw [el] at he hf ⊢
      repeat walk_at "v"
      exact ⟨f, rfl, fun w hw hl => he w hw (workedOf_mem.mpr hl), fun x hx => hf x (workedOf_mem.mpr hx)⟩

end
/-! ### times -/
abbrev s_times : Stmt := topS 11
abbrev N_times : List Str := ["shop", "lags", "ware", "parts", "found", "name", "part"]
theorem sc_times : FnScope N_times ["shop"] (defScope s_times) := ⟨rfl, rfl, rfl, by decide +kernel, rfl, by decide +kernel, by decide +kernel⟩
section
variable {P : Program} {w : World} {K : PySem.W.Frag} {mg : Str → Option Value} {base : Heap}
abbrev sp_times (K : PySem.W.Frag) : Sp := SpA K (Gd K) true (fun s : Shop => [shopD s]) (fun s => ShopA s) (fun s d => ∃ f, d = .dct (sdD D.int (fnS (workedOf s).reverse f)) ∧ TimesTo s s.names f) noRs
theorem c_times (Dn : Dfn K mg "times" s_times ["shop"]) (Z : Glb K mg) (C_worked : Cal P w K mg base 5 "worked" (sp_worked K) []) (C_parts_by_name : Cal P w K mg base 1 "parts_by_name" (sp_parts_by_name K) []) : Cal P w K mg base 6 "times" (sp_times K) [] := by
  obtain ⟨f, fd, F, hm, hb⟩ := Dn.ex
  refine ⟨f, fd, ["shop"], [], ?_, hm, F.kp, hb, .nil⟩
  refine F.ok sc_times (fun vs H Q E h => spA_len (fun _ => rfl) h) (fun cdv A outer s H vs Q E hr h => ?_)
  refine ⟨_, (pss_cons (ps_set (i := 1) sc_times.nd rfl (.inl rfl) pe_dnewK)
    (pss_cons (ps_for PassesOwn.never rfl (pi_tup (pe_ix ix_tup (pv 0) pe_int (fun _ _ => rfl))) (pg_name (i := 2) sc_times.nd rfl (.inl rfl))
    (pss_one (ps_dput (hu_of hr) (pv 1) (pe_ix ix_tup (pv 2) pe_int (fun _ _ => rfl)) (pe_ix ix_tup (pv 2) pe_int (fun _ _ => rfl)) rfl)))
    (pss_cons (ps_set (i := 3) sc_times.nd rfl (.inl rfl) (pe_c C_parts_by_name hr (by first | decide | omega) (by rfl) (pa_cons (pv 0) pa_nil)))
    (pss_cons (ps_set (i := 4) sc_times.nd rfl (.inr rfl) pe_dnewK)
    (pss_cons (ps_for PassesOwn.never rfl (pi_reversed (by rfl) Z.b_reversed (pa_cons (pe_c C_worked hr (by first | decide | omega) (by rfl) (pa_cons (pv 0) pa_nil)) pa_nil)) (pg_name (i := 5) sc_times.nd rfl (.inl rfl))
    (pss_one (ps_dput (hu_of hr) (pv 4) (pv 5) (pe_op op_add (pe_dget (hu_of hr) (pv 1) (pv 5) (fun _ _ => rfl)) (pe_callBK (cr_maxDef rfl hr.units) (by rfl) Z.b_max (by decide +kernel) (pa_cons (pe_lc (own := [("part", 6)]) rfl sc_times.nd (pi_list (pe_dget (hu_of hr) (pv 3) (pv 5) (fun _ _ => rfl))) (blkOk_by (N := N_times) (sc := defScope s_times) (by decide +kernel)) (fun _ _ _ _ _ => (pg_name (i := 6) sc_times.nd rfl (.inl rfl))) (fun _ _ _ _ _ => pts_nil) (fun _ _ _ _ _ => (pe_dget (hu_of hr) (pv 4) (pv 6) (fun _ _ => rfl)))) pa_nil) (pk_cons pe_int pk_nil))) rfl)))
    (pss_one (ps_ret (pv 4)))))))), ?_⟩
  try dsimp only [cxOf, Cx.nox, Cx.wish]
  refine run_def (N := N_times) (fun _ => Nat.le_of_ble_eq_true rfl) (env0 := fun s : Shop => [.p (shopD s), .u, .u, .u, .u, .u, .u]) (fun _ => rfl) (fun B s hp L => ?_) h
  have hn := hp.ok.n
  have hwl := worked_len s
  have nd : (workedOf s).reverse.Nodup := (List.reverse_perm _).nodup_iff.mpr (workedOf_nodup hp.ok.nd)
  repeat walk_at "v"
  refine vs_for (vi_tup ?_)
  repeat walk_at "v"
  refine vo_ixT (d := .tup (s.ws.map wareD)) (atI_nat (j := 0) rfl) ?_
  refine ⟨_, rfl, fun i e => ∃ x, e = [.p (shopD s), .mu (.dct (sdD D.int (lagsOf (s.ws.take i)))), x, .u, .u, .u, .u], ⟨.u, rfl⟩, ?_, ?_⟩
  · rintro i d e hi ⟨x, rfl⟩
    obtain ⟨w, hw, rfl⟩ := map_get hi
    repeat walk_at "v"
    refine vs_dput rfl ?_
    repeat walk_at "v"
    refine vo_ixT (d := .int w.lag) (atI_nat (j := 1) rfl) ?_
    refine fz_p ⟨_, rfl, ?_⟩
    repeat walk_at "v"
    refine vo_ixT (d := .str w.nm) (atI_nat (j := 0) rfl) ?_
    refine ⟨.inr w.nm, rfl, by unfold sdD lagsOf; rw [List.length_map, List.length_map, List.length_take]; omega, ?_⟩
    have hnew : w.nm ∉ (lagsOf (s.ws.take i)).map (·.1) := by
      have h2 : s.names[i]? = some w.nm := by unfold Shop.names; rw [List.getElem?_map, hw]; rfl
      have := not_take hp.ok.nd h2
      unfold lagsOf
      rw [List.map_map]
      unfold Shop.names at this
      rw [← List.map_take] at this
      exact this
    have h3 : putD (sdD D.int (lagsOf (s.ws.take i))) (.inr w.nm) (.int w.lag) = sdD D.int (lagsOf (s.ws.take i) ++ [(w.nm, w.lag)]) := putD_newS D.int hnew
    have h4 : lagsOf (s.ws.take (i + 1)) = lagsOf (s.ws.take i) ++ [(w.nm, w.lag)] := by
      unfold lagsOf
      rw [take_one hw, List.map_append]
      rfl
    rw [h3, ← h4]
    exact ⟨_, rfl⟩
  · rintro e ⟨x, rfl⟩
    rw [List.length_map, List.take_length]
    repeat walk_at "v"
    walk_at "c"
    repeat walk_at "v"
    refine ⟨s, rfl, hp.ok, fun _ h => h, ?_⟩
    rintro _ rfl
    repeat walk_at "v"
    refine vs_for (vi_rev ?_)
    repeat walk_at "v"
    walk_at "c"
    repeat walk_at "v"
    refine ⟨s, rfl, hp, fun _ h => h, ?_⟩
    rintro _ rfl
    repeat walk_at "v"
    refine ⟨_, _, rfl, rfl, ?_⟩
    rw [← List.map_reverse]
    refine ⟨fun i e => ∃ (f : Str → Int) (y : Slot), e = [.p (shopD s), .mu (.dct (sdD D.int (lagsOf s.ws))), x, .p (.dct (sdD strsD (partsOf s))), .mu (.dct (sdD D.int (fnS ((workedOf s).reverse.take i) f))), y, .u] ∧ TimesTo s ((workedOf s).reverse.take i) f, ⟨fun _ => 0, .u, rfl, fun w _ hl => (by rw [List.take_zero] at hl; cases hl)⟩, ?_, ?_⟩
    · rintro i d e hi ⟨f, y, rfl, ht⟩
      obtain ⟨z, hz, rfl⟩ := map_get hi
      have hzm : z ∈ s.names := workedOf_mem.mp (List.mem_reverse.mp (List.mem_of_getElem? hz))
      obtain ⟨w, hw, rfl⟩ := ware_named hzm
      have hpl := hp.ok.p w hw
      have hnew := not_take nd hz
      have hpg : getS (partsOf s) w.nm = some (w.parts.map (·.1)) := getS_of (by rw [partsOf_keys]; exact hp.ok.nd) (List.mem_map.mpr ⟨w, hw, rfl⟩)
      have fin : ∀ m, IsMax0 (w.parts.map fun p => f p.1) m → ∃ (g : Str → Int) (y : Slot), (([Slot.p (shopD s), .mu (.dct (sdD D.int (lagsOf s.ws))), x, .p (.dct (sdD strsD (partsOf s))), .mu (.dct (sdD D.int (fnS ((workedOf s).reverse.take i) f))), y, .u]).set 5 (.p (.str w.nm))).set 4 (.mu (.dct (putD (sdD D.int (fnS ((workedOf s).reverse.take i) f)) (.inr w.nm) (.int (w.lag + m))))) = [.p (shopD s), .mu (.dct (sdD D.int (lagsOf s.ws))), x, .p (.dct (sdD strsD (partsOf s))), .mu (.dct (sdD D.int (fnS ((workedOf s).reverse.take (i + 1)) g))), y, .u] ∧ TimesTo s ((workedOf s).reverse.take (i + 1)) g := fun m hm => by
        refine ⟨_, .p (.str w.nm), ?_, ht.snoc hp hw hz hm⟩
        have h3 : putD (sdD D.int (fnS ((workedOf s).reverse.take i) f)) (.inr w.nm) (.int (w.lag + m)) = sdD D.int (fnS ((workedOf s).reverse.take i) f ++ [(w.nm, w.lag + m)]) := putD_newS D.int (by rw [fnS_keys]; exact hnew)
        rw [h3, take_one hz, fnS_snoc, if_pos rfl]
        have h5 : fnS ((workedOf s).reverse.take i) (fun y => if y = w.nm then w.lag + m else f y) = fnS ((workedOf s).reverse.take i) f := fnS_congr fun y hy => by
          rw [if_neg fun q => hnew (by rw [← q]; exact hy)]
        rw [h5]
        rfl
      have hlen : (sdD D.int (fnS ((workedOf s).reverse.take i) f)).length < 100000 := by
        unfold sdD fnS
        rw [List.length_map, List.length_map, List.length_take, List.length_reverse]
        omega
      repeat walk_at "v"
      refine vs_dput rfl ?_
      repeat walk_at "v"
      refine ⟨_, .inr w.nm, .int w.lag, rfl, rfl, by rw [valD_S, lags_get hp.ok.nd hw]; rfl, ?_⟩
      refine fz_p (ve_maxDef ?_)
      repeat walk_at "v"
      refine ve_lcT (xs := w.parts.map (·.1)) (g := D.str) (h := D.int) (fun z => some (f z)) (hu1 rfl) (only_name (by decide)) (vi_l ?_)
      repeat walk_at "v"
      refine ⟨_, .inr w.nm, strsD (w.parts.map (·.1)), rfl, rfl, by rw [valD_S, hpg]; rfl, ?_⟩
      refine fz_p ⟨_, rfl, rfl, by rw [List.length_map]; omega, fun q j z hz2 => ?_, ?_⟩
      · repeat walk_at "v"
        refine ⟨.set .refl (by decide), ?_⟩
        repeat walk_at "v"
        refine and_t rfl ?_
        have hz3 := List.mem_of_getElem? hz2
        obtain ⟨p, hpm, rfl⟩ := List.mem_map.mp hz3
        have hpt := parts_ahead hp hw hz hpm
        repeat walk_at "v"
        refine ⟨_, .inr p.1, .int (f p.1), rfl, rfl, by rw [valD_S, getS_fn hpt]; rfl, ?_⟩
        exact fz_p ⟨_, rfl, rfl⟩
      rw [show ((w.parts.map (·.1)).filterMap fun z => some (f z)) = w.parts.map fun p => f p.1 by rw [fm_some, List.map_map]; rfl]
      repeat walk_at "v"
      refine ⟨_, (w.parts.map fun p => f p.1), rfl, rfl, fun e => ?_, fun m hm hle => ?_⟩
      · repeat walk_at "v"
        refine ⟨_, rfl, ?_⟩
        repeat walk_at "v"
        exact ⟨.inr w.nm, rfl, hlen, fin 0 (.inl ⟨e, rfl⟩)⟩
      · repeat walk_at "v"
        refine ⟨_, rfl, ?_⟩
        repeat walk_at "v"
        exact ⟨.inr w.nm, rfl, hlen, fin m (.inr ⟨hm, hle⟩)⟩
    · rintro e ⟨f, y, rfl, ht⟩
      have el : ((workedOf s).reverse.take (List.map D.str (workedOf s).reverse).length) = (workedOf s).reverse := by rw [List.length_map, List.take_length]
      rw [el] at ht ⊢
      repeat walk_at "v"
      exact ⟨f, rfl, fun w hw hl => ht w hw (List.mem_reverse.mpr (workedOf_mem.mpr hl))⟩

end
/-! ### _law_amount -/
abbrev s__law_amount : Stmt := topS 29
abbrev N__law_amount : List Str := ["state", "number", "k"]
theorem sc__law_amount : FnScope N__law_amount ["state"] (defScope s__law_amount) := ⟨rfl, rfl, rfl, by decide +kernel, rfl, by decide +kernel, by decide +kernel⟩
section
variable {P : Program} {w : World} {K : PySem.W.Frag} {mg : Str → Option Value} {base : Heap}
abbrev sp__law_amount (K : PySem.W.Frag) : Sp := SpA K (Gd K) false (fun _ : Unit => [.st]) (fun _ => True) (fun _ d => ∃ n, d = .int n ∧ 0 ≤ n ∧ n < 10 ^ 41) noRs
theorem c__law_amount (Dn : Dfn K mg "_law_amount" s__law_amount ["state"]) (Z : Glb K mg) (C__law_next : Cal P w K mg base 1 "_law_next" (sp__law_next K) []) : Cal P w K mg base 2 "_law_amount" (sp__law_amount K) [] := by
  obtain ⟨f, fd, F, hm, hb⟩ := Dn.ex
  refine ⟨f, fd, ["state"], [], ?_, hm, F.kp, hb, .nil⟩
  refine F.ok sc__law_amount (fun vs H Q E h => spA_len (fun _ => rfl) h) (fun cdv A outer s H vs Q E hr h => ?_)
  refine ⟨_, (pss_cons (ps_set (i := 1) sc__law_amount.nd rfl (.inl rfl) (pe_c C__law_next hr (by first | decide | omega) (by rfl) (pa_cons (pv 0) (pa_cons pe_int pa_nil))))
    (pss_cons (ps_if (pt_cmpR op_eq (pe_c C__law_next hr (by first | decide | omega) (by rfl) (pa_cons (pv 0) (pa_cons pe_int pa_nil))) pe_int (nomark _))
    (pss_one (ps_for PassesOwn.never rfl (pi_range1 (by rfl) Z.b_range (pa_cons pe_int pa_nil)) (pg_name (i := 2) sc__law_amount.nd rfl (.inl rfl))
      (pss_one (ps_set (i := 1) sc__law_amount.nd rfl (.inl rfl) (pe_op op_add (pe_op (op_mul.or op_mulW) (pv 1) (pe_op op_pow pe_int pe_int)) (pe_c C__law_next hr (by first | decide | omega) (by rfl) (pa_cons (pv 0) (pa_cons (pe_op op_pow pe_int pe_int) pa_nil))))))))
    pss_nil)
    (pss_one (ps_ret (pv 1))))), ?_⟩
  try dsimp only [cxOf, Cx.nox, Cx.wish]
  refine run_def (N := N__law_amount) (fun _ => Nat.le_of_ble_eq_true rfl) (env0 := fun _ => [.p .st, .u, .u]) (fun _ => rfl) (fun B _ _ L => ?_) h
  repeat walk_at "v"
  walk_at "c"
  repeat walk_at "v"
  refine ⟨10, rfl, ⟨by decide, by decide⟩, fun _ h => h, ?_⟩
  rintro _ ⟨n, rfl, n0, n1⟩
  repeat walk_at "v"
  refine vs_if ?_
  repeat walk_at "v"
  walk_at "c"
  repeat walk_at "v"
  refine ⟨5, rfl, ⟨by decide, by decide⟩, fun _ h => h, ?_⟩
  rintro _ ⟨k, rfl, k0, k1⟩
  repeat walk_at "v"
  refine ⟨fun _ => ?_, fun _ => ?_⟩
  · refine vs_for (vi_range1 ?_)
    repeat walk_at "v"
    refine ⟨_, rfl, ⟨by decide, by decide⟩, fun i e => ∃ m x, e = [.p .st, .p (.int m), x] ∧ 0 ≤ m ∧ m < 10 * (10 ^ 10) ^ i, ⟨n, .u, rfl, n0, by simpa using n1⟩, ?_, ?_⟩
    · rintro i d e hi ⟨m, x, rfl, m0, m1⟩
      repeat walk_at "v"
      walk_at "c"
      repeat walk_at "v"
      refine ⟨_, rfl, ⟨by decide, by decide⟩, fun _ h => h, ?_⟩
      rintro _ ⟨z, rfl, z0, z1⟩
      repeat walk_at "v"
      refine ⟨_, _, rfl, ?_, ?_⟩
      · have : (10 : Int) ^ (10 : Int).toNat = 10000000000 := by decide
        rw [this]
        omega
      · have e1 : (10 : Int) ^ (10 : Int).toNat = 10000000000 := by decide
        rw [e1] at z1 ⊢
        have e2 : ((10 : Int) ^ 10) ^ (i + 1) = (10 ^ 10) ^ i * 10000000000 := by rw [Int.pow_succ]; rfl
        rw [e2]
        omega
    · rintro e ⟨m, x, rfl, m0, m1⟩
      repeat walk_at "v"
      exact ⟨rfl, m, rfl, m0, m1⟩
  · repeat walk_at "v"
    exact ⟨rfl, n, rfl, n0, Int.lt_of_lt_of_le n1 (by decide)⟩

end
/-! ### _law_wants -/
abbrev s__law_wants : Stmt := topS 32
abbrev N__law_wants : List Str := ["state", "names", "many", "wants", "k", "day"]
theorem sc__law_wants : FnScope N__law_wants ["state", "names", "many"] (defScope s__law_wants) := ⟨rfl, rfl, rfl, by decide +kernel, rfl, by decide +kernel, by decide +kernel⟩
section
variable {P : Program} {w : World} {K : PySem.W.Frag} {mg : Str → Option Value} {base : Heap}
abbrev sp__law_wants (K : PySem.W.Frag) : Sp := SpA K (Gd K) false (fun x : List Str × Int => [.st, strsD x.1, .int x.2]) (fun x => 1 ≤ x.1.length ∧ x.1.length ≤ 1000 ∧ 1 ≤ x.2 ∧ x.2 ≤ 21) (fun x d => ∃ vs : List Want, d = .tup (vs.map wantD) ∧ (vs.length : Int) < x.2 ∧ WantsG x.1 vs 20 400) noRs
theorem c__law_wants (Dn : Dfn K mg "_law_wants" s__law_wants ["state", "names", "many"]) (Z : Glb K mg) (C__law_next : Cal P w K mg base 1 "_law_next" (sp__law_next K) []) (C__law_amount : Cal P w K mg base 2 "_law_amount" (sp__law_amount K) []) : Cal P w K mg base 3 "_law_wants" (sp__law_wants K) [] := by
  obtain ⟨f, fd, F, hm, hb⟩ := Dn.ex
  refine ⟨f, fd, ["state", "names", "many"], [], ?_, hm, F.kp, hb, .nil⟩
  refine F.ok sc__law_wants (fun vs H Q E h => spA_len (fun _ => rfl) h) (fun cdv A outer s H vs Q E hr h => ?_)
  refine ⟨_, (pss_cons (ps_set (i := 3) sc__law_wants.nd rfl (.inl rfl) (pe_lst pa_nil))
    (pss_cons (ps_for PassesOwn.never rfl (pi_range1 (by rfl) Z.b_range (pa_cons (pe_c C__law_next hr (by first | decide | omega) (by rfl) (pa_cons (pv 0) (pa_cons (pv 2) pa_nil))) pa_nil)) (pg_name (i := 4) sc__law_wants.nd rfl (.inl rfl))
    (pss_cons (ps_set (i := 5) sc__law_wants.nd rfl (.inl rfl) (pe_ix ix_list (pe_lst (pa_cons (pe_c C__law_next hr (by first | decide | omega) (by rfl) (pa_cons (pv 0) (pa_cons pe_int pa_nil))) (pa_cons (pe_c C__law_next hr (by first | decide | omega) (by rfl) (pa_cons (pv 0) (pa_cons pe_int pa_nil))) pa_nil))) (pe_callTy call_int1 (by rfl) Z.b_int (by decide +kernel) (pa_cons (pe_cmpR op_eq (pe_c C__law_next hr (by first | decide | omega) (by rfl) (pa_cons (pv 0) (pa_cons pe_int pa_nil))) pe_int (nomark _)) pa_nil)) (fun _ _ => rfl)))
      (pss_one (ps_expr (pe_bm PySem.F.plainAttrs_list PySem.F.slot_list_append PySem.F.type_list_append mt_append (pv 3) (pa_cons (pe_tup (pa_cons (pe_ix ix_list (pv 1) (pe_c C__law_next hr (by first | decide | omega) (by rfl) (pa_cons (pv 0) (pa_cons (pe_callB call_len_seq (by rfl) Z.b_len PySem.boot_len (pa_cons (pv 1) pa_nil)) pa_nil))) (fun _ _ => rfl)) (pa_cons (pv 5) (pa_cons (pe_c C__law_amount hr (by first | decide | omega) (by rfl) (pa_cons (pv 0) pa_nil)) pa_nil)))) pa_nil))))))
    (pss_one (ps_ret (pe_callTy call_tuple_of (by rfl) Z.b_tuple (by decide +kernel) (pa_cons (pv 3) pa_nil)))))), ?_⟩
  try dsimp only [cxOf, Cx.nox, Cx.wish]
  refine run_def (N := N__law_wants) (fun _ => Nat.le_of_ble_eq_true rfl) (env0 := fun x : List Str × Int => [.p .st, .p (strsD x.1), .p (.int x.2), .u, .u, .u]) (fun _ => rfl) (fun B x hp L => ?_) h
  obtain ⟨zs, m⟩ := x
  obtain ⟨hz, hz2, hm1, hm2⟩ := hp
  dsimp only at hz hz2 hm1 hm2 ⊢
  repeat walk_at "v"
  refine vs_for (vi_range1 ?_)
  repeat walk_at "v"
  walk_at "c"
  repeat walk_at "v"
  refine ⟨_, rfl, ⟨by first | decide | omega, by first | decide | omega⟩, fun _ h => h, ?_⟩
  rintro _ ⟨n, rfl, n0, n1⟩
  repeat walk_at "v"
  refine ⟨_, rfl, ⟨by omega, by omega⟩, fun i e => ∃ ps x y, e = [.p .st, .p (strsD zs), .p (.int m), .mu (.lst (ps.map wantD)), x, y] ∧ ps.length = i ∧ ∀ v ∈ ps, v.1 ∈ zs ∧ (0 ≤ v.2.1 ∧ v.2.1 ≤ 400) ∧ Amt v.2.2, ⟨[], .u, .u, rfl, rfl, fun p hp => by cases hp⟩, ?_, ?_⟩
  · rintro i d e hi ⟨ps, x, y, rfl, hl, hok⟩
    obtain ⟨hi2, rfl⟩ := rangeD_get hi
    repeat walk_at "v"
    walk_at "c"
    repeat walk_at "v"
    refine ⟨_, rfl, ⟨by first | decide | omega, by first | decide | omega⟩, fun _ h => h, ?_⟩
    rintro _ ⟨a, rfl, a0, a1⟩
    repeat walk_at "v"
    walk_at "c"
    repeat walk_at "v"
    refine ⟨_, rfl, ⟨by first | decide | omega, by first | decide | omega⟩, fun _ h => h, ?_⟩
    rintro _ ⟨b, rfl, b0, b1⟩
    repeat walk_at "v"
    walk_at "c"
    repeat walk_at "v"
    refine ⟨_, rfl, ⟨by first | decide | omega, by first | decide | omega⟩, fun _ h => h, ?_⟩
    rintro _ ⟨c, rfl, c0, c1⟩
    repeat walk_at "v"
    obtain ⟨v, hv, hv2⟩ := pickB (P := fun v => 0 ≤ v ∧ v ≤ 400) (a := a) (b := b) (decide (c = 0)) (by omega) (by omega)
    refine vo_ixL rfl hv ?_
    repeat walk_at "v"
    walk_at "c"
    repeat walk_at "v"
    refine ⟨_, rfl, ⟨by rw [List.length_map]; omega, by rw [List.length_map]; omega⟩, fun _ h => h, ?_⟩
    rintro _ ⟨k, rfl, k0, k1⟩
    rw [List.length_map] at k1
    obtain ⟨j, z, rfl, hz3, hat⟩ := atI_lt D.str (l := zs) k0 k1
    refine vo_ixL rfl hat ?_
    repeat walk_at "v"
    walk_at "c"
    repeat walk_at "v"
    refine ⟨(), rfl, trivial, fun _ h => h, ?_⟩
    rintro _ ⟨u, rfl, u0, u1⟩
    repeat walk_at "v"
    refine ⟨_, rfl, by rw [List.length_map]; omega, ?_⟩
    refine ⟨ps ++ [(z, v, u)], _, _, by rw [List.map_append]; rfl, by rw [List.length_append, hl]; rfl, fun p hp => ?_⟩
    rcases List.mem_append.mp hp with hp | hp
    · exact hok p hp
    · cases List.mem_singleton.mp hp
      exact ⟨List.mem_of_getElem? hz3, hv2, u0, by show u < 10 ^ 42; omega⟩
  · rintro e ⟨ps, x, y, rfl, hl, hok⟩
    rw [rangeD_len] at hl
    repeat walk_at "v"
    exact ⟨rfl, ps, rfl, by omega, by omega, hok⟩

end
/-! ### _law_coming -/
abbrev s__law_coming : Stmt := topS 30
abbrev N__law_coming : List Str := ["state", "many", "coming", "k", "day"]
theorem sc__law_coming : FnScope N__law_coming ["state", "many"] (defScope s__law_coming) := ⟨rfl, rfl, rfl, by decide +kernel, rfl, by decide +kernel, by decide +kernel⟩
section
variable {P : Program} {w : World} {K : PySem.W.Frag} {mg : Str → Option Value} {base : Heap}
abbrev sp__law_coming (K : PySem.W.Frag) : Sp := SpA K (Gd K) false (fun m : Int => [.st, .int m]) (fun m => 1 ≤ m ∧ m ≤ 13) (fun m d => ∃ ps : List (Int × Int), d = .tup (ps.map pairD) ∧ (ps.length : Int) < m ∧ ∀ p ∈ ps, (0 ≤ p.1 ∧ p.1 ≤ 400) ∧ Amt p.2) noRs
theorem c__law_coming (Dn : Dfn K mg "_law_coming" s__law_coming ["state", "many"]) (Z : Glb K mg) (C__law_next : Cal P w K mg base 1 "_law_next" (sp__law_next K) []) (C__law_amount : Cal P w K mg base 2 "_law_amount" (sp__law_amount K) []) : Cal P w K mg base 3 "_law_coming" (sp__law_coming K) [] := by
  obtain ⟨f, fd, F, hm, hb⟩ := Dn.ex
  refine ⟨f, fd, ["state", "many"], [], ?_, hm, F.kp, hb, .nil⟩
  refine F.ok sc__law_coming (fun vs H Q E h => spA_len (fun _ => rfl) h) (fun cdv A outer s H vs Q E hr h => ?_)
  refine ⟨_, (pss_cons (ps_set (i := 2) sc__law_coming.nd rfl (.inl rfl) (pe_lst pa_nil))
    (pss_cons (ps_for PassesOwn.never rfl (pi_range1 (by rfl) Z.b_range (pa_cons (pe_c C__law_next hr (by first | decide | omega) (by rfl) (pa_cons (pv 0) (pa_cons (pv 1) pa_nil))) pa_nil)) (pg_name (i := 3) sc__law_coming.nd rfl (.inl rfl))
    (pss_cons (ps_set (i := 4) sc__law_coming.nd rfl (.inl rfl) (pe_ix ix_list (pe_lst (pa_cons (pe_c C__law_next hr (by first | decide | omega) (by rfl) (pa_cons (pv 0) (pa_cons pe_int pa_nil))) (pa_cons (pe_c C__law_next hr (by first | decide | omega) (by rfl) (pa_cons (pv 0) (pa_cons pe_int pa_nil))) pa_nil))) (pe_callTy call_int1 (by rfl) Z.b_int (by decide +kernel) (pa_cons (pe_cmpR op_eq (pe_c C__law_next hr (by first | decide | omega) (by rfl) (pa_cons (pv 0) (pa_cons pe_int pa_nil))) pe_int (nomark _)) pa_nil)) (fun _ _ => rfl)))
      (pss_one (ps_expr (pe_bm PySem.F.plainAttrs_list PySem.F.slot_list_append PySem.F.type_list_append mt_append (pv 2) (pa_cons (pe_tup (pa_cons (pv 4) (pa_cons (pe_c C__law_amount hr (by first | decide | omega) (by rfl) (pa_cons (pv 0) pa_nil)) pa_nil))) pa_nil))))))
    (pss_one (ps_ret (pe_callTy call_tuple_of (by rfl) Z.b_tuple (by decide +kernel) (pa_cons (pv 2) pa_nil)))))), ?_⟩
  try dsimp only [cxOf, Cx.nox, Cx.wish]
  refine run_def (N := N__law_coming) (fun _ => Nat.le_of_ble_eq_true rfl) (env0 := fun m : Int => [.p .st, .p (.int m), .u, .u, .u]) (fun _ => rfl) (fun B m hp L => ?_) h
  repeat walk_at "v"
  refine vs_for (vi_range1 ?_)
  repeat walk_at "v"
  walk_at "c"
  repeat walk_at "v"
  refine ⟨_, rfl, ⟨by first | decide | omega, by first | decide | omega⟩, fun _ h => h, ?_⟩
  rintro _ ⟨n, rfl, n0, n1⟩
  repeat walk_at "v"
  refine ⟨_, rfl, ⟨by omega, by omega⟩, fun i e => ∃ ps x y, e = [.p .st, .p (.int m), .mu (.lst (ps.map pairD)), x, y] ∧ ps.length = i ∧ ∀ p ∈ ps, (0 ≤ p.1 ∧ p.1 ≤ 400) ∧ Amt p.2, ⟨[], .u, .u, rfl, rfl, fun p hp => by cases hp⟩, ?_, ?_⟩
  · rintro i d e hi ⟨ps, x, y, rfl, hl, hok⟩
    obtain ⟨hi2, rfl⟩ := rangeD_get hi
    repeat walk_at "v"
    walk_at "c"
    repeat walk_at "v"
    refine ⟨_, rfl, ⟨by first | decide | omega, by first | decide | omega⟩, fun _ h => h, ?_⟩
    rintro _ ⟨a, rfl, a0, a1⟩
    repeat walk_at "v"
    walk_at "c"
    repeat walk_at "v"
    refine ⟨_, rfl, ⟨by first | decide | omega, by first | decide | omega⟩, fun _ h => h, ?_⟩
    rintro _ ⟨b, rfl, b0, b1⟩
    repeat walk_at "v"
    walk_at "c"
    repeat walk_at "v"
    refine ⟨_, rfl, ⟨by first | decide | omega, by first | decide | omega⟩, fun _ h => h, ?_⟩
    rintro _ ⟨c, rfl, c0, c1⟩
    repeat walk_at "v"
    obtain ⟨v, hv, hv2⟩ := pickB (P := fun v => 0 ≤ v ∧ v ≤ 400) (a := a) (b := b) (decide (c = 0)) (by omega) (by omega)
    refine vo_ixL rfl hv ?_
    repeat walk_at "v"
    walk_at "c"
    repeat walk_at "v"
    refine ⟨(), rfl, trivial, fun _ h => h, ?_⟩
    rintro _ ⟨u, rfl, u0, u1⟩
    repeat walk_at "v"
    refine ⟨_, rfl, by rw [List.length_map]; omega, ?_⟩
    refine ⟨ps ++ [(v, u)], _, _, by rw [List.map_append]; rfl, by rw [List.length_append, hl]; rfl, fun p hp => ?_⟩
    rcases List.mem_append.mp hp with hp | hp
    · exact hok p hp
    · cases List.mem_singleton.mp hp
      exact ⟨hv2, u0, by omega⟩
  · rintro e ⟨ps, x, y, rfl, hl, hok⟩
    rw [rangeD_len] at hl
    repeat walk_at "v"
    exact ⟨rfl, ps, rfl, by omega, hok⟩

end
/-! ### _law_ware -/
abbrev s__law_ware : Stmt := topS 31
abbrev N__law_ware : List Str := ["state", "name", "parts", "top", "lag", "gives", "floor", "stock", "some", "part"]
theorem sc__law_ware : FnScope N__law_ware ["state", "name", "parts", "top"] (defScope s__law_ware) := ⟨rfl, rfl, rfl, by decide +kernel, rfl, by decide +kernel, by decide +kernel⟩
section
variable {P : Program} {w : World} {K : PySem.W.Frag} {mg : Str → Option Value} {base : Heap}
abbrev sp__law_ware (K : PySem.W.Frag) : Sp := SpA K (Gd K) false (fun x : Str × List Str × Bool × Int => [.st, .str x.1, seqB x.2.2.1 (x.2.1.map D.str), .int x.2.2.2]) (fun x => NameOk x.1 ∧ x.2.1.Nodup ∧ x.2.1.length ≤ 100 ∧ 0 ≤ x.2.2.2 ∧ x.2.2.2 ≤ 6) (fun x d => ∃ w, d = wareD w ∧ WareG w ∧ w.nm = x.1 ∧ ∀ p ∈ w.parts, p.1 ∈ x.2.1) noRs
theorem c__law_ware (Dn : Dfn K mg "_law_ware" s__law_ware ["state", "name", "parts", "top"]) (Z : Glb K mg) (C__law_coming : Cal P w K mg base 3 "_law_coming" (sp__law_coming K) []) (C__law_next : Cal P w K mg base 1 "_law_next" (sp__law_next K) []) (C__law_amount : Cal P w K mg base 2 "_law_amount" (sp__law_amount K) []) : Cal P w K mg base 4 "_law_ware" (sp__law_ware K) [] := by
  obtain ⟨f, fd, F, hm, hb⟩ := Dn.ex
  refine ⟨f, fd, ["state", "name", "parts", "top"], [], ?_, hm, F.kp, hb, .nil⟩
  refine F.ok sc__law_ware (fun vs H Q E h => spA_len (fun _ => rfl) h) (fun cdv A outer s H vs Q E hr h => ?_)
  refine ⟨_, (pss_cons (ps_set (i := 4) sc__law_ware.nd rfl (.inl rfl) (pe_ix ix_list (pe_lst (pa_cons (pe_c C__law_next hr (by first | decide | omega) (by rfl) (pa_cons (pv 0) (pa_cons pe_int pa_nil))) (pa_cons (pe_c C__law_next hr (by first | decide | omega) (by rfl) (pa_cons (pv 0) (pa_cons pe_int pa_nil))) pa_nil))) (pe_callTy call_int1 (by rfl) Z.b_int (by decide +kernel) (pa_cons (pe_cmpR op_eq (pe_c C__law_next hr (by first | decide | omega) (by rfl) (pa_cons (pv 0) (pa_cons pe_int pa_nil))) pe_int (nomark _)) pa_nil)) (fun _ _ => rfl)))
    (pss_cons (ps_set (i := 5) sc__law_ware.nd rfl (.inl rfl) (pe_op op_add pe_int (pe_ix ix_list (pe_lst (pa_cons (pe_c C__law_next hr (by first | decide | omega) (by rfl) (pa_cons (pv 0) (pa_cons pe_int pa_nil))) (pa_cons (pe_c C__law_amount hr (by first | decide | omega) (by rfl) (pa_cons (pv 0) pa_nil)) pa_nil))) (pe_callTy call_int1 (by rfl) Z.b_int (by decide +kernel) (pa_cons (pe_cmpR op_eq (pe_c C__law_next hr (by first | decide | omega) (by rfl) (pa_cons (pv 0) (pa_cons pe_int pa_nil))) pe_int (nomark _)) pa_nil)) (fun _ _ => rfl))))
    (pss_cons (ps_set (i := 6) sc__law_ware.nd rfl (.inl rfl) (pe_ix ix_list (pe_lst (pa_cons pe_int (pa_cons (pe_c C__law_amount hr (by first | decide | omega) (by rfl) (pa_cons (pv 0) pa_nil)) pa_nil))) (pe_callTy call_int1 (by rfl) Z.b_int (by decide +kernel) (pa_cons (pe_cmpR op_eq (pe_c C__law_next hr (by first | decide | omega) (by rfl) (pa_cons (pv 0) (pa_cons pe_int pa_nil))) pe_int (nomark _)) pa_nil)) (fun _ _ => rfl)))
    (pss_cons (ps_set (i := 7) sc__law_ware.nd rfl (.inl rfl) (pe_c C__law_amount hr (by first | decide | omega) (by rfl) (pa_cons (pv 0) pa_nil)))
    (pss_cons (ps_set (i := 8) sc__law_ware.nd rfl (.inl rfl) (pe_lst pa_nil))
    (pss_cons (ps_for PassesOwn.never rfl (pi_seq (pv 2)) (pg_name (i := 9) sc__law_ware.nd rfl (.inl rfl))
    (pss_one (ps_if ((pw_and (pt_cmpR op_lt (pe_callB call_len_seq (by rfl) Z.b_len PySem.boot_len (pa_cons (pv 8) pa_nil)) (pv 3) (nomark _)) (pw_and1 (pt_cmpR op_eq (pe_c C__law_next hr (by first | decide | omega) (by rfl) (pa_cons (pv 0) (pa_cons pe_int pa_nil))) pe_int (nomark _))))).pt
      (pss_one (ps_expr (pe_bm PySem.F.plainAttrs_list PySem.F.slot_list_append PySem.F.type_list_append mt_append (pv 8) (pa_cons (pe_tup (pa_cons (pv 9) (pa_cons (pe_op op_add pe_int (pe_c C__law_amount hr (by first | decide | omega) (by rfl) (pa_cons (pv 0) pa_nil))) pa_nil))) pa_nil))))
      pss_nil)))
    (pss_one (ps_ret (pe_tup (pa_cons (pv 1) (pa_cons (pv 4) (pa_cons (pv 5) (pa_cons (pv 6) (pa_cons (pv 7) (pa_cons (pe_c C__law_coming hr (by first | decide | omega) (by rfl) (pa_cons (pv 0) (pa_cons pe_int pa_nil))) (pa_cons (pe_callTy call_tuple_of (by rfl) Z.b_tuple (by decide +kernel) (pa_cons (pv 8) pa_nil)) pa_nil)))))))))))))))), ?_⟩
  try dsimp only [cxOf, Cx.nox, Cx.wish]
  refine run_def (N := N__law_ware) (fun _ => Nat.le_of_ble_eq_true rfl) (env0 := fun x : Str × List Str × Bool × Int => [.p .st, .p (.str x.1), .p (seqB x.2.2.1 (x.2.1.map D.str)), .p (.int x.2.2.2), .u, .u, .u, .u, .u, .u]) (fun _ => rfl) (fun B x hp L => ?_) h
  obtain ⟨nm, zs, b, top⟩ := x
  obtain ⟨hnm, hnd, hzl, ht0, ht1⟩ := hp
  dsimp only at hnm hnd hzl ht0 ht1 ⊢
  repeat walk_at "v"
  walk_at "c"
  repeat walk_at "v"
  refine ⟨_, rfl, ⟨by first | decide | omega, by first | decide | omega⟩, fun _ h => h, ?_⟩
  rintro _ ⟨a, rfl, a0, a1⟩
  repeat walk_at "v"
  walk_at "c"
  repeat walk_at "v"
  refine ⟨_, rfl, ⟨by first | decide | omega, by first | decide | omega⟩, fun _ h => h, ?_⟩
  rintro _ ⟨a', rfl, a0', a1'⟩
  repeat walk_at "v"
  walk_at "c"
  repeat walk_at "v"
  refine ⟨_, rfl, ⟨by first | decide | omega, by first | decide | omega⟩, fun _ h => h, ?_⟩
  rintro _ ⟨c, rfl, c0, c1⟩
  repeat walk_at "v"
  obtain ⟨lag, hlag, hlag2⟩ := pickB (P := fun v => 0 ≤ v ∧ v ≤ 30) (a := a) (b := a') (decide (c = 0)) (by omega) (by omega)
  refine vo_ixL rfl hlag ?_
  repeat walk_at "v"
  walk_at "c"
  repeat walk_at "v"
  refine ⟨_, rfl, ⟨by first | decide | omega, by first | decide | omega⟩, fun _ h => h, ?_⟩
  rintro _ ⟨g, rfl, g0, g1⟩
  repeat walk_at "v"
  walk_at "c"
  repeat walk_at "v"
  refine ⟨(), rfl, trivial, fun _ h => h, ?_⟩
  rintro _ ⟨g', rfl, g0', g1'⟩
  repeat walk_at "v"
  walk_at "c"
  repeat walk_at "v"
  refine ⟨_, rfl, ⟨by first | decide | omega, by first | decide | omega⟩, fun _ h => h, ?_⟩
  rintro _ ⟨c2, rfl, c20, c21⟩
  repeat walk_at "v"
  obtain ⟨gv, hgv, hgv2⟩ := pickB (P := fun v => 0 ≤ v ∧ v < 10 ^ 41) (a := g) (b := g') (decide (c2 = 0)) (by omega) (by omega)
  refine vo_ixL rfl hgv ?_
  repeat walk_at "v"
  walk_at "c"
  repeat walk_at "v"
  refine ⟨(), rfl, trivial, fun _ h => h, ?_⟩
  rintro _ ⟨f', rfl, f0', f1'⟩
  repeat walk_at "v"
  walk_at "c"
  repeat walk_at "v"
  refine ⟨_, rfl, ⟨by first | decide | omega, by first | decide | omega⟩, fun _ h => h, ?_⟩
  rintro _ ⟨c3, rfl, c30, c31⟩
  repeat walk_at "v"
  obtain ⟨fl, hfl, hfl2⟩ := pickB (P := fun v => 0 ≤ v ∧ v < 10 ^ 41) (a := 0) (b := f') (decide (c3 = 0)) (by omega) (by omega)
  refine vo_ixL rfl hfl ?_
  repeat walk_at "v"
  walk_at "c"
  repeat walk_at "v"
  refine ⟨(), rfl, trivial, fun _ h => h, ?_⟩
  rintro _ ⟨st, rfl, st0, st1⟩
  repeat walk_at "v"
  refine vs_for (vi_seqB b (zs.map D.str) ?_)
  repeat walk_at "v"
  refine ⟨rfl, fun i e => ∃ ps : List (Str × Int), ∃ x, e = [.p .st, .p (.str nm), .p (seqB b (zs.map D.str)), .p (.int top), .p (.int lag), .p (.int (1 + gv)), .p (.int fl), .p (.int st), .mu (.lst (ps.map partD)), x] ∧ (ps.length : Int) ≤ top ∧ (ps.map (·.1)).Sublist (zs.take i) ∧ ∀ p ∈ ps, 1 ≤ p.2 ∧ p.2 < 10 ^ 42, ⟨[], .u, rfl, by simpa using ht0, by simp, fun p hp => by cases hp⟩, ?_, ?_⟩
  · rintro i d e hi ⟨ps, x, rfl, hl, hs, hok⟩
    obtain ⟨z, hz, rfl⟩ := map_get hi
    repeat walk_at "v"
    refine vs_if ?_
    repeat walk_at "v"
    have hstep : (ps.map (·.1)).Sublist (zs.take (i + 1)) := hs.trans (by rw [take_one hz]; exact List.sublist_append_left _ _)
    refine ⟨fun hb => ?_, fun hb => ?_⟩
    · have hb2 : (ps.map partD).length < top := of_decide_eq_true hb
      rw [List.length_map] at hb2
      repeat walk_at "v"
      walk_at "c"
      repeat walk_at "v"
      refine ⟨_, rfl, ⟨by first | decide | omega, by first | decide | omega⟩, fun _ h => h, ?_⟩
      rintro _ ⟨q, rfl, q0, q1⟩
      repeat walk_at "v"
      refine ⟨fun _ => ?_, fun _ => ?_⟩
      · repeat walk_at "v"
        walk_at "c"
        repeat walk_at "v"
        refine ⟨(), rfl, trivial, fun _ h => h, ?_⟩
        rintro _ ⟨u, rfl, u0, u1⟩
        repeat walk_at "v"
        refine ⟨_, rfl, by rw [List.length_map]; omega, ?_⟩
        refine ⟨ps ++ [(z, 1 + u)], _, by rw [List.map_append]; rfl, by rw [List.length_append]; show ((_ + 1 : Nat) : Int) ≤ top; omega, ?_, fun p hp => ?_⟩
        · rw [List.map_append, take_one hz]
          exact List.Sublist.append hs (List.Sublist.refl _)
        · rcases List.mem_append.mp hp with hp | hp
          · exact hok p hp
          · cases List.mem_singleton.mp hp
            exact ⟨by show 1 ≤ 1 + u; omega, by show 1 + u < 10 ^ 42; omega⟩
      · repeat walk_at "v"
        exact ⟨ps, _, rfl, hl, hstep, hok⟩
    · refine and_f rfl ?_
      repeat walk_at "v"
      exact ⟨ps, _, rfl, hl, hstep, hok⟩
  · rintro e ⟨ps, x, rfl, hl, hs, hok⟩
    rw [List.length_map, List.take_length] at hs
    repeat walk_at "v"
    walk_at "c"
    repeat walk_at "v"
    refine ⟨4, rfl, ⟨by decide, by decide⟩, fun _ h => h, ?_⟩
    rintro _ ⟨cs, rfl, csl, csok⟩
    repeat walk_at "v"
    refine ⟨rfl, ⟨nm, lag, 1 + gv, fl, st, cs, ps⟩, rfl, ?_, rfl, fun p hp => hs.subset (List.mem_map_of_mem (f := (·.1)) hp)⟩
    exact ⟨hnm, hlag2, ⟨by show 1 ≤ 1 + gv; omega, by show 1 + gv < 10 ^ 42; omega⟩, ⟨hfl2.1, by have := hfl2.2; show fl < 10 ^ 42; omega⟩, ⟨st0, by show st < 10 ^ 42; omega⟩, by show cs.length ≤ 12; omega, csok, by show ps.length ≤ 6; omega, hs.nodup hnd, hok⟩

end
/-! ### _law_small -/
abbrev s__law_small : Stmt := topS 33
abbrev N__law_small : List Str := ["state", "sign", "broad", "some", "names", "wares", "k", "one"]
theorem sc__law_small : FnScope N__law_small ["state", "sign"] (defScope s__law_small) := ⟨rfl, rfl, rfl, by decide +kernel, rfl, by decide +kernel, by decide +kernel⟩
def poolS : List Str := ["a", "bb", "c", "dddd", "ab", "f"]
def signed (y : Str) : List Str := poolS.map (· ++ y)
theorem signed_ok {y : Str} (h : y = "x" ∨ y = "y") : ∀ z ∈ signed y, NameOk z := fun z hz => by
  refine nameOk_of ?_
  rcases h with rfl | rfl
  · have : (signed "x").all nameOkB = true := by decide +kernel
    exact List.all_eq_true.mp this z hz
  · have : (signed "y").all nameOkB = true := by decide +kernel
    exact List.all_eq_true.mp this z hz
theorem signed_nd {y : Str} (h : y = "x" ∨ y = "y") : (signed y).Nodup := by
  rcases h with rfl | rfl
  · decide +kernel
  · decide +kernel
theorem signed_ne : ∀ z ∈ signed "x", z ∉ signed "y" := by decide +kernel
theorem pool_len {z : Str} (h : z ∈ poolS) : z.length ≤ 4 := by
  have : poolS.all (fun z => decide (z.length ≤ 4)) = true := by decide +kernel
  exact of_decide_eq_true (List.all_eq_true.mp this z h)
section
variable {P : Program} {w : World} {K : PySem.W.Frag} {mg : Str → Option Value} {base : Heap}
abbrev sp__law_small (K : PySem.W.Frag) : Sp := SpA K (Gd K) false (fun y : Str => [.st, .str y]) (fun y => y = "x" ∨ y = "y") (fun y d => ∃ s : Shop, d = shopD s ∧ ShopG s ∧ Acyclic (partsOf s) ∧ s.ws.length ≤ 6 ∧ s.wants.length ≤ 5 ∧ ∀ z ∈ s.names, z ∈ signed y) noRs
theorem c__law_small (Dn : Dfn K mg "_law_small" s__law_small ["state", "sign"]) (Z : Glb K mg) (C__law_wants : Cal P w K mg base 3 "_law_wants" (sp__law_wants K) []) (C__law_next : Cal P w K mg base 1 "_law_next" (sp__law_next K) []) (C__law_ware : Cal P w K mg base 4 "_law_ware" (sp__law_ware K) []) : Cal P w K mg base 5 "_law_small" (sp__law_small K) [] := by
  obtain ⟨f, fd, F, hm, hb⟩ := Dn.ex
  refine ⟨f, fd, ["state", "sign"], [], ?_, hm, F.kp, hb, .nil⟩
  refine F.ok sc__law_small (fun vs H Q E h => spA_len (fun _ => rfl) h) (fun cdv A outer s H vs Q E hr h => ?_)
  refine ⟨_, (pss_cons (ps_set (i := 2) sc__law_small.nd rfl (.inl rfl) (pe_ix ix_list (pe_lst (pa_cons pe_int (pa_cons pe_int pa_nil))) (pe_callTy call_int1 (by rfl) Z.b_int (by decide +kernel) (pa_cons (pe_cmpR op_eq (pe_c C__law_next hr (by first | decide | omega) (by rfl) (pa_cons (pv 0) (pa_cons pe_int pa_nil))) pe_int (nomark _)) pa_nil)) (fun _ _ => rfl)))
    (pss_cons (ps_set (i := 3) sc__law_small.nd rfl (.inl rfl) (pe_slice sl_list (pe_lst (pa_cons pe_str (pa_cons pe_str (pa_cons pe_str (pa_cons pe_str (pa_cons pe_str (pa_cons pe_str pa_nil))))))) po_none (po_some (pe_op op_add pe_int (pe_c C__law_next hr (by first | decide | omega) (by rfl) (pa_cons (pv 0) (pa_cons (pv 2) pa_nil)))))))
    (pss_cons (ps_setLc (i := 4) (own := [("one", 7)]) rfl sc__law_small.nd rfl rfl (sw_true rfl rfl rfl (by decide +kernel)) (pi_list (pv 3)) (blkOk_by (N := N__law_small) (sc := defScope s__law_small) (by decide +kernel)) (fun _ _ _ _ _ => (pg_name (i := 7) sc__law_small.nd rfl (.inl rfl))) (fun _ _ _ _ _ => pts_nil) (fun _ _ _ _ _ => (pe_op op_add_str (pv 7) (pv 1))))
    (pss_cons (ps_set (i := 5) sc__law_small.nd rfl (.inl rfl) (pe_lst pa_nil))
    (pss_cons (ps_for PassesOwn.never rfl (pi_range1 (by rfl) Z.b_range (pa_cons (pe_callB call_len_seq (by rfl) Z.b_len PySem.boot_len (pa_cons (pv 4) pa_nil)) pa_nil)) (pg_name (i := 6) sc__law_small.nd rfl (.inl rfl))
    (pss_one (ps_expr (pe_bm PySem.F.plainAttrs_list PySem.F.slot_list_append PySem.F.type_list_append mt_append (pv 5) (pa_cons (pe_c C__law_ware hr (by first | decide | omega) (by rfl) (pa_cons (pv 0) (pa_cons (pe_ix ix_list (pv 4) (pv 6) (fun _ _ => rfl)) (pa_cons (pe_slice sl_list (pv 4) (po_some (pe_op op_add (pv 6) pe_int)) po_none) (pa_cons pe_int pa_nil))))) pa_nil)))))
    (pss_cons (ps_for PassesOwn.never rfl (pi_range1 (by rfl) Z.b_range (pa_cons (pe_callB call_len_seq (by rfl) Z.b_len PySem.boot_len (pa_cons (pv 5) pa_nil)) pa_nil)) (pg_name (i := 6) sc__law_small.nd rfl (.inl rfl))
    (pss_one (ps_expr (pe_bm PySem.F.plainAttrs_list PySem.F.slot_list_insert PySem.F.type_list_insert mt_insert (pv 5) (pa_cons (pe_c C__law_next hr (by first | decide | omega) (by rfl) (pa_cons (pv 0) (pa_cons (pe_op op_add (pv 6) pe_int) pa_nil))) (pa_cons (pe_bm PySem.F.plainAttrs_list PySem.F.slot_list_pop PySem.F.type_list_pop mt_popAt (pv 5) (pa_cons (pv 6) pa_nil)) pa_nil))))))
    (pss_one (ps_ret (pe_tup (pa_cons (pe_callTy call_tuple_of (by rfl) Z.b_tuple (by decide +kernel) (pa_cons (pv 5) pa_nil)) (pa_cons (pe_c C__law_wants hr (by first | decide | omega) (by rfl) (pa_cons (pv 0) (pa_cons (pv 4) (pa_cons pe_int pa_nil)))) pa_nil))))))))))), ?_⟩
  try dsimp only [cxOf, Cx.nox, Cx.wish]
  refine run_def (N := N__law_small) (fun _ => Nat.le_of_ble_eq_true rfl) (env0 := fun y : Str => [.p .st, .p (.str y), .u, .u, .u, .u, .u, .u]) (fun _ => rfl) (fun B y hp L => ?_) h
  have hyl : y.length = 1 := by
    rcases hp with rfl | rfl <;> rfl
  repeat walk_at "v"
  walk_at "c"
  repeat walk_at "v"
  refine ⟨_, rfl, ⟨by first | decide | omega, by first | decide | omega⟩, fun _ h => h, ?_⟩
  rintro _ ⟨c, rfl, c0, c1⟩
  repeat walk_at "v"
  obtain ⟨m, hm, hm2⟩ := pickB (P := fun v => 4 ≤ v ∧ v ≤ 6) (a := 4) (b := 6) (decide (c = 0)) (by decide) (by decide)
  refine vo_ixL rfl hm ?_
  repeat walk_at "v"
  walk_at "c"
  repeat walk_at "v"
  refine ⟨_, rfl, ⟨by omega, by omega⟩, fun _ h => h, ?_⟩
  rintro _ ⟨n, rfl, n0, n1⟩
  repeat ((fail_if_success (with_reducible refine vs_next ?_)); (fail_if_success (with_reducible refine vs_seq ?_)); (fail_if_success (with_reducible refine vs_asg ?_)); walk_at "u")
  obtain ⟨zs, hzs⟩ : ∃ zs, zs = poolS.take (1 + n).toNat := ⟨_, rfl⟩
  have ecut : cutD [D.str "a", D.str "bb", D.str "c", D.str "dddd", D.str "ab", D.str "f"] none (some (1 + n)) = zs.map D.str := by
    rw [hzs]
    exact cutD_takeI D.str poolS (by omega) (by show _ ≤ ((6 : Nat) : Int); omega)
  rw [ecut]
  trace_state
  refine vs_frz 3 (.inr rfl) ?_
  have hzl : zs.length = (1 + n).toNat := by
    rw [hzs, List.length_take]
    show min _ 6 = _
    omega
  repeat walk_at "v"
  refine ve_lcT (xs := zs) (g := D.str) (h := D.str) (fun z => some (z ++ y)) (hu1 rfl) (only_name (by decide)) (vi_l ?_)
  repeat walk_at "v"
  refine ⟨_, rfl, rfl, by omega, fun q i z hz => ?_, ?_⟩
  · have hzp : z ∈ poolS := List.mem_of_mem_take (i := (1 + n).toNat) (by rw [← hzs]; exact List.mem_of_getElem? hz)
    have := pool_len hzp
    repeat walk_at "v"
    refine ⟨.set .refl (by decide), ?_⟩
    repeat walk_at "v"
    refine and_t rfl ?_
    repeat walk_at "v"
    refine vo_add_str (by omega) ?_
    exact fz_p ⟨_, rfl, rfl⟩
  rw [fm_some]
  obtain ⟨ns, hns⟩ : ∃ ns, ns = zs.map (· ++ y) := ⟨_, rfl⟩
  rw [← hns]
  have hnl : ns.length = zs.length := by rw [hns, List.length_map]
  have hsub : ns.Sublist (signed y) := by
    rw [hns, hzs]
    exact (List.take_sublist _ _).map _
  have hnd := hsub.nodup (signed_nd hp)
  have hok : ∀ z ∈ ns, NameOk z := fun z hz => signed_ok hp z (hsub.subset hz)
  repeat walk_at "v"
  refine vs_frz 4 (.inr rfl) ?_
  repeat walk_at "v"
  refine vs_for (vi_range1 ?_)
  repeat walk_at "v"
  refine ⟨_, rfl, ⟨by rw [List.length_map]; omega, by rw [List.length_map]; omega⟩, fun i e => ∃ (ws : List Ware) (x : Slot), e = [.p .st, .p (.str y), .p (.int m), .p (.lst (zs.map D.str)), .p (strsD ns), .mu (.lst (ws.map wareD)), x, .u] ∧ Chained ns ws i, ⟨[], .u, rfl, .nil⟩, ?_, ?_⟩
  · rintro i d e hi ⟨ws, x, rfl, hc⟩
    obtain ⟨hi2, rfl⟩ := rangeD_get hi
    have e0 : (0 : Int) + ((i : Nat) : Int) = (i : Nat) := by omega
    rw [e0]
    rw [List.length_map] at hi2
    have hiz : i < ns.length := by omega
    have hz : ns[i]? = some ns[i] := List.getElem?_eq_getElem hiz
    repeat walk_at "v"
    walk_at "c"
    repeat walk_at "v"
    refine vo_ixL rfl (atI_get D.str hz) ?_
    repeat walk_at "v"
    rw [cutD_drop D.str ns (by omega)]
    have e1 : ((i : Int) + 1).toNat = i + 1 := by omega
    rw [e1]
    refine ⟨(ns[i], ns.drop (i + 1), true, 6), rfl, ⟨hok _ (List.getElem_mem hiz), (List.drop_sublist _ _).nodup hnd, by show (ns.drop (i + 1)).length ≤ 100; rw [List.length_drop]; omega, by show (0 : Int) ≤ 6; decide, by show (6 : Int) ≤ 6; decide⟩, fun _ h => h, ?_⟩
    rintro _ ⟨w, rfl, hw, hwn, hwp⟩
    refine fz_p ⟨_, rfl, by rw [List.length_map, hc.len]; omega, ?_⟩
    exact ⟨ws ++ [w], _, by rw [List.map_append]; rfl, hc.snoc hz hw hwn hwp⟩
  · rintro e ⟨ws, x, rfl, hc⟩
    rw [rangeD_len, List.length_map, Int.toNat_natCast] at hc
    have hwl := hc.len
    repeat walk_at "v"
    refine vs_for (vi_range1 ?_)
    repeat walk_at "v"
    refine ⟨_, rfl, ⟨by rw [List.length_map]; omega, by rw [List.length_map]; omega⟩, fun i e => ∃ (us : List Ware) (x : Slot), e = [.p .st, .p (.str y), .p (.int m), .p (.lst (zs.map D.str)), .p (strsD ns), .mu (.lst (us.map wareD)), x, .u] ∧ us.Perm ws, ⟨ws, x, rfl, .refl _⟩, ?_, ?_⟩
    · rintro i d e hi ⟨us, x, rfl, hp⟩
      obtain ⟨hi2, rfl⟩ := rangeD_get hi
      rw [List.length_map] at hi2
      have e0 : (0 : Int) + ((i : Nat) : Int) = (i : Nat) := by omega
      rw [e0]
      have hul := hp.length_eq
      have hiu : i < us.length := by omega
      repeat walk_at "v"
      walk_at "c"
      repeat walk_at "v"
      refine ⟨_, rfl, ⟨by first | decide | omega, by first | decide | omega⟩, fun _ h => h, ?_⟩
      rintro _ ⟨z, rfl, z0, z1⟩
      repeat walk_at "v"
      refine ⟨z0, by omega, ?_⟩
      repeat walk_at "v"
      refine ⟨i, _, rfl, by rw [List.getElem?_map, List.getElem?_eq_getElem hiu]; rfl, by rw [List.length_map]; omega, ?_⟩
      exact ⟨(us.eraseIdx i).take z.toNat ++ [us[i]] ++ (us.eraseIdx i).drop z.toNat, _, by rw [insPop_map wareD]; rfl, (insPop_perm (List.getElem?_eq_getElem hiu)).trans hp⟩
    · rintro e ⟨us, x, rfl, hp2⟩
      repeat walk_at "v"
      walk_at "c"
      repeat walk_at "v"
      refine ⟨(ns, 6), rfl, ⟨by show 1 ≤ ns.length; omega, by show ns.length ≤ 1000; omega, by show (1 : Int) ≤ 6; decide, by show (6 : Int) ≤ 21; decide⟩, fun _ h => h, ?_⟩
      rintro _ ⟨vs, rfl, hvl, hv⟩
      repeat walk_at "v"
      obtain ⟨g1, g2⟩ := hc.shop hnd hp2 (by omega) (by omega) hv
      refine ⟨rfl, ⟨us, vs⟩, rfl, g1, g2, ?_, ?_, fun z hz => ?_⟩
      · show us.length ≤ 6
        rw [hp2.length_eq]
        omega
      · have hvl2 : (vs.length : Int) < 6 := hvl
        show vs.length ≤ 5
        omega
      · obtain ⟨w, hw, rfl⟩ := List.mem_map.mp hz
        have h1 : w.nm ∈ ws.map (·.nm) := List.mem_map_of_mem (f := fun w : Ware => w.nm) (hp2.mem_iff.mp hw)
        rw [hc.nm] at h1
        exact hsub.subset (List.mem_of_mem_take h1)

end
/-! ### so_far -/
abbrev s_so_far : Stmt := topS 13
abbrev N_so_far : List Str := ["row", "found", "total", "number"]
theorem sc_so_far : FnScope N_so_far ["row"] (defScope s_so_far) := ⟨rfl, rfl, rfl, by decide +kernel, rfl, by decide +kernel, by decide +kernel⟩
section
variable {P : Program} {w : World} {K : PySem.W.Frag} {mg : Str → Option Value} {base : Heap}
abbrev sp_so_far (K : PySem.W.Frag) : Sp := SpA K (Gd K) true (fun ns : List Int => [.lst (ns.map D.int)]) (fun ns => ns.length ≤ 1000) (fun ns d => d = .lst ((soFar 0 ns).map D.int)) noRs
theorem c_so_far (Dn : Dfn K mg "so_far" s_so_far ["row"]) (Z : Glb K mg)  : Cal P w K mg base 1 "so_far" (sp_so_far K) [] := by
  obtain ⟨f, fd, F, hm, hb⟩ := Dn.ex
  refine ⟨f, fd, ["row"], [], ?_, hm, F.kp, hb, .nil⟩
  refine F.ok sc_so_far (fun vs H Q E h => spA_len (fun _ => rfl) h) (fun cdv A outer s H vs Q E hr h => ?_)
  refine ⟨_, (pss_cons (ps_set (i := 1) sc_so_far.nd rfl (.inl rfl) (pe_lst pa_nil))
    (pss_cons (ps_set (i := 2) sc_so_far.nd rfl (.inl rfl) pe_int)
    (pss_cons (ps_for PassesOwn.never rfl (pi_list (pv 0)) (pg_name (i := 3) sc_so_far.nd rfl (.inl rfl))
    (pss_cons (ps_aug (i := 2) sc_so_far.nd rfl (.inl rfl) (pv 3) ip_add)
      (pss_one (ps_expr (pe_bm PySem.F.plainAttrs_list PySem.F.slot_list_append PySem.F.type_list_append mt_append (pv 1) (pa_cons (pv 2) pa_nil))))))
    (pss_one (ps_ret (pv 1)))))), ?_⟩
  try dsimp only [cxOf, Cx.nox, Cx.wish]
  refine run_def (N := N_so_far) (fun _ => Nat.le_of_ble_eq_true rfl) (env0 := fun ns => [.p (.lst (ns.map D.int)), .u, .u, .u]) (fun _ => rfl) (fun B ns hp L => ?_) h
  repeat walk_at "v"
  refine vs_for (vi_l ?_)
  repeat walk_at "v"
  refine ⟨_, rfl, fun i e => ∃ x, e = [.p (.lst (ns.map D.int)), .mu (.lst ((soFar 0 (ns.take i)).map D.int)), .p (.int (ns.take i).sum), x], ⟨.u, rfl⟩, ?_, ?_⟩
  · rintro i d e hi ⟨x, rfl⟩
    obtain ⟨n, hn, rfl⟩ := map_get hi
    repeat walk_at "v"
    have hl := lt_of_get hn
    refine ⟨_, rfl, ?_, .p (.int n), ?_⟩
    · rw [List.length_map, soFar_len, List.length_take]
      omega
    · rw [take_one hn, soFar_app, List.map_append, List.sum_append]
      simp
  · rintro e ⟨x, rfl⟩
    rw [List.length_map, List.take_length]
    repeat walk_at "v"
    rfl

end
/-! ### least_lots -/
abbrev s_least_lots : Stmt := topS 14
abbrev N_least_lots : List Str := ["have", "need", "gives", "floor", "found", "lots", "there", "gone", "due"]
theorem sc_least_lots : FnScope N_least_lots ["have", "need", "gives", "floor"] (defScope s_least_lots) := ⟨rfl, rfl, rfl, by decide +kernel, rfl, by decide +kernel, by decide +kernel⟩
section
variable {P : Program} {w : World} {K : PySem.W.Frag} {mg : Str → Option Value} {base : Heap}
abbrev sp_least_lots (K : PySem.W.Frag) : Sp := SpA K (Gd K) true (fun x : List Int × List Int × Int × Int => [.lst (x.1.map D.int), .lst (x.2.1.map D.int), .int x.2.2.1, .int x.2.2.2])
  (fun x => x.1.length ≤ 1000 ∧ x.2.1.length ≤ 1000 ∧ 0 < x.2.2.1 ∧ x.2.2.1.natAbs.log2 < 9000) (fun x d => d = .lst ((leastLots x.1 x.2.1 x.2.2.1 x.2.2.2).map D.int)) noRs
theorem c_least_lots (Dn : Dfn K mg "least_lots" s_least_lots ["have", "need", "gives", "floor"]) (Z : Glb K mg) (C_so_far : Cal P w K mg base 1 "so_far" (sp_so_far K) []) : Cal P w K mg base 2 "least_lots" (sp_least_lots K) [] := by
  obtain ⟨f, fd, F, hm, hb⟩ := Dn.ex
  refine ⟨f, fd, ["have", "need", "gives", "floor"], [], ?_, hm, F.kp, hb, .nil⟩
  refine F.ok sc_least_lots (fun vs H Q E h => spA_len (fun _ => rfl) h) (fun cdv A outer s H vs Q E hr h => ?_)
  refine ⟨_, (pss_cons (ps_set (i := 4) sc_least_lots.nd rfl (.inl rfl) (pe_lst pa_nil))
    (pss_cons (ps_set (i := 5) sc_least_lots.nd rfl (.inl rfl) pe_int)
    (pss_cons (ps_for PassesOwn.never rfl (pi_zip (by rfl) Z.b_zip (pa_cons (pe_c C_so_far hr (by first | decide | omega) (by rfl) (pa_cons (pv 0) pa_nil)) (pa_cons (pe_c C_so_far hr (by first | decide | omega) (by rfl) (pa_cons (pv 1) pa_nil)) pa_nil))) (pg_tup rfl (pgs_cons (pg_name (i := 6) sc_least_lots.nd rfl (.inl rfl)) (pgs_cons (pg_name (i := 7) sc_least_lots.nd rfl (.inl rfl)) pgs_nil)))
    (pss_cons (ps_set (i := 8) sc_least_lots.nd rfl (.inl rfl) (pe_callB (call_max2 rfl) (by rfl) Z.b_max (by decide +kernel) (pa_cons (pv 5) (pa_cons (pe_un un_neg (pe_op op_fdivW (pe_op op_sub (pe_op op_sub (pv 6) (pv 7)) (pv 3)) (pv 2))) pa_nil))))
      (pss_cons (ps_expr (pe_bm PySem.F.plainAttrs_list PySem.F.slot_list_append PySem.F.type_list_append mt_append (pv 4) (pa_cons (pe_op op_sub (pv 8) (pv 5)) pa_nil)))
      (pss_one (ps_set (i := 5) sc_least_lots.nd rfl (.inl rfl) (pv 8))))))
    (pss_one (ps_ret (pv 4)))))), ?_⟩
  try dsimp only [cxOf, Cx.nox, Cx.wish]
  refine run_def (N := N_least_lots) (fun _ => Nat.le_of_ble_eq_true rfl) (env0 := fun x => [.p (.lst (x.1.map D.int)), .p (.lst (x.2.1.map D.int)), .p (.int x.2.2.1), .p (.int x.2.2.2), .u, .u, .u, .u, .u]) (fun _ => rfl) (fun B x hp L => ?_) h
  obtain ⟨hv, nd, g, f⟩ := x
  obtain ⟨h1, h2, h3, h4⟩ := hp
  simp only at h1 h2 h3 h4
  repeat walk_at "v"
  refine vs_for (vi_zip ?_)
  repeat walk_at "v"
  walk_at "c"
  repeat walk_at "v"
  refine ⟨hv, rfl, h1, fun _ h => h, ?_⟩
  rintro _ rfl
  repeat walk_at "v"
  walk_at "c"
  repeat walk_at "v"
  refine ⟨nd, rfl, h2, fun _ h => h, ?_⟩
  rintro _ rfl
  repeat walk_at "v"
  refine ⟨_, _, _, _, rfl, rfl, rfl, fun i e => ∃ x y z, e = [.p (.lst (hv.map D.int)), .p (.lst (nd.map D.int)), .p (.int g), .p (.int f), .mu (.lst ((llGo g f 0 (((soFar 0 hv).zip (soFar 0 nd)).take i)).map D.int)), .p (.int (llAt g f 0 (((soFar 0 hv).zip (soFar 0 nd)).take i))), x, y, z], ⟨.u, .u, .u, rfl⟩, ?_, ?_⟩
  · rintro i d e hi ⟨x, y, z, rfl⟩
    obtain ⟨d1, d2, hd1, hd2, rfl⟩ := zipD_get hi
    obtain ⟨t, ht, rfl⟩ := map_get hd1
    obtain ⟨n, hn, rfl⟩ := map_get hd2
    have hz := zip_get ht hn
    have hl := lt_of_get ht
    rw [soFar_len] at hl
    repeat walk_at "v"
    · refine ⟨_, rfl, ?_, ?_⟩
      · rw [List.length_map, llGo_len, List.length_take]
        omega
      · repeat walk_at "v"
        refine ⟨.p (.int t), .p (.int n), .p (.int (max (llAt g f 0 (((soFar 0 hv).zip (soFar 0 nd)).take i)) (-((t - n - f) / g)))), ?_⟩
        rw [take_one hz, llGo_app, llAt_app, List.map_append]
        rfl
    · exact ⟨h3, h4⟩
  · rintro e ⟨x, y, z, rfl⟩
    have el : (zipD ((soFar 0 hv).map D.int) ((soFar 0 nd).map D.int)).length = ((soFar 0 hv).zip (soFar 0 nd)).length := by
      rw [zipD_len, List.length_map, List.length_map, List.length_zip]
    rw [el, List.take_length]
    repeat walk_at "v"
    rfl

end
/-! ### days_of -/
abbrev s_days_of : Stmt := topS 18
abbrev N_days_of : List Str := ["shop", "name", "day", "amount"]
theorem sc_days_of : FnScope N_days_of ["shop"] (defScope s_days_of) := ⟨rfl, rfl, rfl, by decide +kernel, rfl, by decide +kernel, by decide +kernel⟩
section
variable {P : Program} {w : World} {K : PySem.W.Frag} {mg : Str → Option Value} {base : Heap}
abbrev sp_days_of (K : PySem.W.Frag) : Sp := SpA K (Gd K) false (fun s : Shop => [shopD s]) (fun s => ShopA s ∧ ∀ w ∈ s.wants, 0 ≤ w.2.1) (fun s d => ∃ n, d = .int n ∧ DaysOf s n) noRs
theorem c_days_of (Dn : Dfn K mg "days_of" s_days_of ["shop"]) (Z : Glb K mg) (C_check_rings : Cal P w K mg base 3 "check_rings" (sp_check_rings K) []) : Cal P w K mg base 4 "days_of" (sp_days_of K) [] := by
  obtain ⟨f, fd, F, hm, hb⟩ := Dn.ex
  refine ⟨f, fd, ["shop"], [], ?_, hm, F.kp, hb, .nil⟩
  refine F.ok sc_days_of (fun vs H Q E h => spA_len (fun _ => rfl) h) (fun cdv A outer s H vs Q E hr h => ?_)
  refine ⟨_, (pss_cons (ps_expr (pe_c C_check_rings hr (by first | decide | omega) (by rfl) (pa_cons (pv 0) pa_nil)))
    (pss_one (ps_ret (pe_op op_add (pe_callBK (cr_maxDef rfl hr.units) (by rfl) Z.b_max (by decide +kernel) (pa_cons (pe_lc (own := [("name", 1), ("day", 2), ("amount", 3)]) rfl sc_days_of.nd (pi_tup (pe_ix ix_tup (pv 0) pe_int (fun _ _ => rfl))) (blkOk_by (N := N_days_of) (sc := defScope s_days_of) (by decide +kernel)) (fun _ _ _ _ _ => (show PG _ _ (gTup K 3 _) from pg_tup rfl (pgs_cons (pg_name (i := 1) sc_days_of.nd rfl (.inl rfl)) (pgs_cons (pg_name (i := 2) sc_days_of.nd rfl (.inl rfl)) (pgs_cons (pg_name (i := 3) sc_days_of.nd rfl (.inl rfl)) pgs_nil))))) (fun _ _ _ _ _ => pts_nil) (fun _ _ _ _ _ => (pv 2))) pa_nil) (pk_cons pe_int pk_nil)) pe_int)))), ?_⟩
  try dsimp only [cxOf, Cx.nox, Cx.wish]
  refine run_def (N := N_days_of) (fun _ => Nat.le_of_ble_eq_true rfl) (env0 := fun s : Shop => [.p (shopD s), .u, .u, .u]) (fun _ => rfl) (fun B s hp L => ?_) h
  obtain ⟨hp, hd⟩ := hp
  repeat walk_at "v"
  walk_at "c"
  repeat walk_at "v"
  refine ⟨s, rfl, hp, fun _ h => h, ?_⟩
  rintro _ rfl
  repeat walk_at "v"
  refine ve_maxDef ?_
  repeat walk_at "v"
  refine ve_lc (hu3 rfl rfl rfl) (only_tup (only_cons (only_name (by decide)) (only_cons (only_name (by decide)) (only_cons (only_name (by decide)) only_nil)))) (vi_tup ?_)
  repeat walk_at "v"
  refine vo_ixT (atI_nat (j := 1) rfl) ?_
  have hm := hp.ok.m
  refine ⟨_, rfl, by rw [List.length_map]; omega, fun j acc => acc = ((s.wants.take j).map fun w => w.2.1).map D.int, rfl, ?_, ?_⟩
  · rintro q j d acc hj rfl
    obtain ⟨w, hw, ed⟩ := map_get hj
    have ed2 : d = .tup [.str w.1, .int w.2.1, .int w.2.2] := ed
    subst ed2
    repeat walk_at "v"
    refine ⟨.set (.set (.set .refl (by decide)) (by decide)) (by decide), ?_⟩
    repeat walk_at "v"
    refine and_t rfl ?_
    repeat walk_at "v"
    refine ⟨_, rfl, ?_⟩
    show _ = List.map _ (List.map _ (List.take (j + 1) _))
    rw [take_one hw, List.map_append, List.map_append]
    rfl
  · rintro acc rfl
    rw [List.length_map, List.take_length]
    repeat walk_at "v"
    refine ⟨_, _, rfl, rfl, fun e => ?_, fun m hmm hle => ?_⟩
    · repeat walk_at "v"
      have hnil : s.wants = [] := List.map_eq_nil_iff.mp e
      exact ⟨rfl, _, rfl, ⟨by decide, fun w hw => (by rw [hnil] at hw; cases hw), .inl rfl⟩⟩
    · repeat walk_at "v"
      obtain ⟨w, hw, rfl⟩ := List.mem_map.mp hmm
      have := hd w hw
      exact ⟨rfl, _, rfl, ⟨by omega, fun v hv => (by have := hle _ (List.mem_map_of_mem (f := fun w : Want => w.2.1) hv); omega), .inr ⟨w, hw, rfl⟩⟩⟩

end
/-! ### had -/
abbrev s_had : Stmt := topS 21
abbrev N_had : List Str := ["shop", "name", "ware", "found", "day", "amount"]
theorem sc_had : FnScope N_had ["shop", "name"] (defScope s_had) := ⟨rfl, rfl, rfl, by decide +kernel, rfl, by decide +kernel, by decide +kernel⟩
section
variable {P : Program} {w : World} {K : PySem.W.Frag} {mg : Str → Option Value} {base : Heap}
structure HadIn (s : Shop) (w : Ware) : Prop where
  a : ShopA s
  m : w ∈ s.ws
  d : ∀ v ∈ s.wants, 0 ≤ v.2.1 ∧ v.2.1 ≤ 10000
  c : ∀ p ∈ w.com, 0 ≤ p.1
abbrev sp_had (K : PySem.W.Frag) : Sp := SpA K (Gd K) true (fun x : Shop × Ware => [shopD x.1, .str x.2.nm]) (fun x => HadIn x.1 x.2) (fun x d => ∃ n : Nat, DaysOf x.1 n ∧ d = intsD (rowF n (hadF x.2))) noRs
theorem c_had (Dn : Dfn K mg "had" s_had ["shop", "name"]) (Z : Glb K mg) (C_days_of : Cal P w K mg base 4 "days_of" (sp_days_of K) []) (C_ware_of : Cal P w K mg base 1 "ware_of" (sp_ware_of K) []) : Cal P w K mg base 5 "had" (sp_had K) [] := by
  obtain ⟨f, fd, F, hm, hb⟩ := Dn.ex
  refine ⟨f, fd, ["shop", "name"], [], ?_, hm, F.kp, hb, .nil⟩
  refine F.ok sc_had (fun vs H Q E h => spA_len (fun _ => rfl) h) (fun cdv A outer s H vs Q E hr h => ?_)
  refine ⟨_, (pss_cons (ps_set (i := 2) sc_had.nd rfl (.inl rfl) (pe_c C_ware_of hr (by first | decide | omega) (by rfl) (pa_cons (pv 0) (pa_cons (pv 1) pa_nil))))
    (pss_cons (ps_set (i := 3) sc_had.nd rfl (.inl rfl) (pe_op op_rep (pe_lst (pa_cons pe_int pa_nil)) (pe_c C_days_of hr (by first | decide | omega) (by rfl) (pa_cons (pv 0) pa_nil))))
    (pss_cons (ps_augS (pv 3) pe_int get_list (pe_ix ix_tup (pv 2) pe_int (fun _ _ => rfl)) ip_add set_list)
    (pss_cons (ps_for PassesOwn.never rfl (pi_tup (pe_ix ix_tup (pv 2) pe_int (fun _ _ => rfl))) (pg_tup rfl (pgs_cons (pg_name (i := 4) sc_had.nd rfl (.inl rfl)) (pgs_cons (pg_name (i := 5) sc_had.nd rfl (.inl rfl)) pgs_nil)))
    (pss_one (ps_if (pt_cmpR op_lt (pv 4) (pe_callB call_len_seq (by rfl) Z.b_len PySem.boot_len (pa_cons (pv 3) pa_nil)) (nomark _))
      (pss_one (ps_augS (pv 3) (pv 4) get_list (pv 5) ip_add set_list))
      pss_nil)))
    (pss_one (ps_ret (pv 3))))))), ?_⟩
  try dsimp only [cxOf, Cx.nox, Cx.wish]
  refine run_def (N := N_had) (fun _ => Nat.le_of_ble_eq_true rfl) (env0 := fun x : Shop × Ware => [.p (shopD x.1), .p (.str x.2.nm), .u, .u, .u, .u]) (fun _ => rfl) (fun B x hp L => ?_) h
  obtain ⟨s, w⟩ := x
  obtain ⟨ha, hw, hd, hc⟩ := hp
  dsimp only at ha hw hd hc ⊢
  repeat walk_at "v"
  walk_at "c"
  repeat walk_at "v"
  refine ⟨(s, w), rfl, ⟨ha.ok.nd, hw⟩, fun _ h => h, ?_⟩
  rintro _ rfl
  repeat walk_at "v"
  walk_at "c"
  repeat walk_at "v"
  refine ⟨s, rfl, ⟨ha, fun v hv => (hd v hv).1⟩, fun _ h => h, ?_⟩
  rintro _ ⟨n, rfl, hn⟩
  repeat walk_at "v"
  have h1 := hn.one
  have hb : n ≤ 10001 := by
    rcases hn.is with e | ⟨v, hv, e⟩
    · omega
    · have := hd v hv
      omega
  obtain ⟨n, rfl⟩ := Int.eq_ofNat_of_zero_le (show 0 ≤ n by omega)
  refine vo_rep1 rfl (by omega) (by omega) ?_
  have e1 : List.replicate ((n : Nat) : Int).toNat (D.int 0) = (rowF n fun _ => 0).map D.int := by
    rw [← rowF_zero, List.map_replicate, Int.toNat_natCast]
  rw [e1]
  repeat walk_at "v"
  refine vs_augI rfl ?_
  repeat walk_at "v"
  refine ⟨_, 0, _, rfl, ixN_nat (j := 0) (by rw [rowF_len]; omega), rowF_get (by omega), by rw [rowF_len]; omega, ?_⟩
  repeat walk_at "v"
  refine vo_ixT (d := .int w.stock) (atI_nat (j := 4) rfl) ?_
  repeat walk_at "v"
  rw [rowF_set]
  refine vs_for (vi_tup ?_)
  repeat walk_at "v"
  refine vo_ixT (d := .tup (w.com.map pairD)) (atI_nat (j := 5) rfl) ?_
  refine ⟨_, rfl, fun i e => ∃ x y, e = [.p (shopD s), .p (.str w.nm), .p (wareD w), .mu (.lst ((rowF n fun d => (if d = 0 then w.stock else 0) + comesOn (w.com.take i) d).map D.int)), x, y], ⟨.u, .u, ?_⟩, ?_, ?_⟩
  · rw [show (rowF n fun d => (if d = 0 then w.stock else 0) + comesOn (w.com.take 0) d) = rowF n fun e => if e = 0 then 0 + w.stock else 0 from rowF_congr fun d _ => by
      show _ + 0 = _
      split <;> omega]
    rfl
  · rintro i d e hi ⟨x, y, rfl⟩
    obtain ⟨⟨day, am⟩, hp, ed⟩ := map_get hi
    have ed2 : d = .tup [.int day, .int am] := ed
    subst ed2
    have d0 : 0 ≤ day := hc _ (List.mem_of_getElem? hp)
    obtain ⟨day, rfl⟩ := Int.eq_ofNat_of_zero_le d0
    have hs : ∀ e, comesOn (w.com.take (i + 1)) e = comesOn (w.com.take i) e + if day = e then am else 0 := fun e => by
      rw [take_one hp, comes_snoc]
      congr 1
      by_cases q : day = e
      · rw [if_pos q, if_pos (by show ((day : Nat) : Int) = e; rw [q])]
      · rw [if_neg q, if_neg (by show ¬ ((day : Nat) : Int) = e; omega)]
    repeat walk_at "v"
    refine vs_if ?_
    repeat walk_at "v"
    rw [List.length_map, rowF_len]
    refine ⟨fun hb => ?_, fun hb => ?_⟩
    · have hlt : day < n := by have := of_decide_eq_true hb; omega
      refine vs_augI rfl ?_
      repeat walk_at "v"
      refine ⟨_, day, _, rfl, ixN_nat (by rw [rowF_len]; exact hlt), rowF_get hlt, by rw [rowF_len]; omega, ?_⟩
      repeat walk_at "v"
      rw [rowF_set]
      refine ⟨.p (.int day), .p (.int am), ?_⟩
      rw [show (rowF n fun d => (if d = 0 then w.stock else 0) + comesOn (w.com.take (i + 1)) d) = rowF n fun e => if e = day then (if day = 0 then w.stock else 0) + comesOn (w.com.take i) day + am else (if e = 0 then w.stock else 0) + comesOn (w.com.take i) e from rowF_congr fun e _ => by
        rw [hs]
        by_cases q : e = day
        · subst q
          rw [if_pos rfl, if_pos rfl]
          omega
        · rw [if_neg q, if_neg (show ¬ day = e from fun z => q z.symm)]
          omega]
      rfl
    · have hge : n ≤ day := by have := of_decide_eq_false hb; omega
      repeat walk_at "v"
      refine ⟨.p (.int day), .p (.int am), ?_⟩
      rw [show (rowF n fun d => (if d = 0 then w.stock else 0) + comesOn (w.com.take (i + 1)) d) = rowF n fun d => (if d = 0 then w.stock else 0) + comesOn (w.com.take i) d from rowF_congr fun e he => by
        rw [hs, if_neg (show ¬ day = e by omega)]
        omega]
      rfl
  · rintro e ⟨x, y, rfl⟩
    rw [List.length_map, List.take_length]
    repeat walk_at "v"
    exact ⟨n, hn, rfl⟩

end
/-! ### begun -/
abbrev s_begun : Stmt := topS 19
abbrev N_begun : List Str := ["shop", "plan", "name", "lag", "row"]
theorem sc_begun : FnScope N_begun ["shop", "plan", "name"] (defScope s_begun) := ⟨rfl, rfl, rfl, by decide +kernel, rfl, by decide +kernel, by decide +kernel⟩
section
variable {P : Program} {w : World} {K : PySem.W.Frag} {mg : Str → Option Value} {base : Heap}
structure BegunIn (s : Shop) (pl : List (Str × List Int)) (w : Ware) (row : List Int) : Prop where
  a : ShopA s
  m : w ∈ s.ws
  r : getS pl w.nm = some row
  n : row.length ≤ 1000
  l : 0 ≤ w.lag
  l1 : w.lag ≤ 1000
abbrev sp_begun (K : PySem.W.Frag) : Sp := SpA K (Gd K) true (fun x : Shop × List (Str × List Int) × Ware × List Int => [shopD x.1, .dct (sdD intsD x.2.1), .str x.2.2.1.nm]) (fun x => BegunIn x.1 x.2.1 x.2.2.1 x.2.2.2) (fun x d => d = intsD (begunRow x.2.2.1.lag x.2.2.2)) noRs
theorem c_begun (Dn : Dfn K mg "begun" s_begun ["shop", "plan", "name"]) (Z : Glb K mg) (C_ware_of : Cal P w K mg base 1 "ware_of" (sp_ware_of K) []) (C_check_rings : Cal P w K mg base 3 "check_rings" (sp_check_rings K) []) : Cal P w K mg base 4 "begun" (sp_begun K) [] := by
  obtain ⟨f, fd, F, hm, hb⟩ := Dn.ex
  refine ⟨f, fd, ["shop", "plan", "name"], [], ?_, hm, F.kp, hb, .nil⟩
  refine F.ok sc_begun (fun vs H Q E h => spA_len (fun _ => rfl) h) (fun cdv A outer s H vs Q E hr h => ?_)
  refine ⟨_, (pss_cons (ps_expr (pe_c C_check_rings hr (by first | decide | omega) (by rfl) (pa_cons (pv 0) pa_nil)))
    (pss_cons (ps_set (i := 3) sc_begun.nd rfl (.inl rfl) (pe_ix ix_tup (pe_c C_ware_of hr (by first | decide | omega) (by rfl) (pa_cons (pv 0) (pa_cons (pv 2) pa_nil))) pe_int (fun _ _ => rfl)))
    (pss_cons (ps_set (i := 4) sc_begun.nd rfl (.inl rfl) (pe_dget (hu_of hr) (pv 1) (pv 2) (fun _ _ => rfl)))
    (pss_one (ps_ret (pe_op op_cat (pe_slice sl_list (pv 4) (po_some (pv 3)) po_none) (pe_op op_rep (pe_lst (pa_cons pe_int pa_nil)) (pe_callB (call_min2 rfl) (by rfl) Z.b_min (by decide +kernel) (pa_cons (pv 3) (pa_cons (pe_callB call_len_seq (by rfl) Z.b_len PySem.boot_len (pa_cons (pv 4) pa_nil)) pa_nil)))))))))), ?_⟩
  try dsimp only [cxOf, Cx.nox, Cx.wish]
  refine run_def (N := N_begun) (fun _ => Nat.le_of_ble_eq_true rfl) (env0 := fun x : Shop × List (Str × List Int) × Ware × List Int => [.p (shopD x.1), .p (.dct (sdD intsD x.2.1)), .p (.str x.2.2.1.nm), .u, .u]) (fun _ => rfl) (fun B x hp L => ?_) h
  obtain ⟨s, pl, w, row⟩ := x
  obtain ⟨ha, hw, hr, hn, hl, hl1⟩ := hp
  dsimp only at ha hw hr hn hl hl1 ⊢
  repeat walk_at "v"
  walk_at "c"
  repeat walk_at "v"
  refine ⟨s, rfl, ha, fun _ h => h, ?_⟩
  rintro _ rfl
  repeat walk_at "v"
  walk_at "c"
  repeat walk_at "v"
  refine ⟨(s, w), rfl, ⟨ha.ok.nd, hw⟩, fun _ h => h, ?_⟩
  rintro _ rfl
  repeat walk_at "v"
  refine vo_ixT (d := .int w.lag) (atI_nat (j := 1) rfl) ?_
  repeat walk_at "v"
  refine ⟨_, .inr w.nm, _, rfl, rfl, by rw [valD_S, hr]; rfl, ?_⟩
  show VG _ _ _ _ (.p (.lst (row.map D.int))) _ _
  repeat walk_at "v"
  rw [cutD_drop D.int row hl]
  refine vo_rep1 rfl ?_ ?_ ?_
  · rw [List.length_map]
    omega
  · rw [List.length_map]
    omega
  repeat walk_at "v"
  rw [List.length_map]
  have e1 : List.replicate (min w.lag (row.length : Int)).toNat (D.int 0) = (List.replicate (min w.lag.toNat row.length) (0 : Int)).map D.int := by
    rw [List.map_replicate]
    congr 1
    omega
  rw [e1]
  refine vo_cat rfl rfl ?_ ?_
  · rw [List.length_map, List.length_map, List.length_drop, List.length_replicate]
    omega
  rw [← List.map_append]
  rfl

end
/-! ### needs -/
abbrev s_needs : Stmt := topS 20
abbrev N_needs : List Str := ["shop", "plan", "name", "found", "wanted", "day", "amount", "ware", "part", "lots"]
theorem sc_needs : FnScope N_needs ["shop", "plan", "name"] (defScope s_needs) := ⟨rfl, rfl, rfl, by decide +kernel, rfl, by decide +kernel, by decide +kernel⟩
section
variable {P : Program} {w : World} {K : PySem.W.Frag} {mg : Str → Option Value} {base : Heap}
structure NeedsIn (s : Shop) (pl : List (Str × List Int)) (nm : Str) (n : Nat) : Prop where
  a : ShopA s
  dn : DaysOf s n
  d : ∀ v ∈ s.wants, 0 ≤ v.2.1 ∧ v.2.1 ≤ 900
  l : ∀ v ∈ s.ws, 0 ≤ v.lag ∧ v.lag ≤ 1000
  p : ∀ v ∈ s.ws, ∀ p ∈ v.parts, p.2.natAbs.log2 < 400000
  r : ∀ v ∈ s.ws, nm ∈ v.parts.map (·.1) → ∃ row, getS pl v.nm = some row ∧ row.length = n ∧ ∀ x ∈ row, x.natAbs.log2 < 400000
abbrev sp_needs (K : PySem.W.Frag) : Sp := SpA K (Gd K) true (fun x : Shop × List (Str × List Int) × Str × Nat => [shopD x.1, .dct (sdD intsD x.2.1), .str x.2.2.1]) (fun x => NeedsIn x.1 x.2.1 x.2.2.1 x.2.2.2) (fun x d => d = intsD (rowF x.2.2.2 (needF x.1 x.2.1 x.2.2.1))) noRs
theorem c_needs (Dn : Dfn K mg "needs" s_needs ["shop", "plan", "name"]) (Z : Glb K mg) (C_begun : Cal P w K mg base 4 "begun" (sp_begun K) []) (C_days_of : Cal P w K mg base 4 "days_of" (sp_days_of K) []) : Cal P w K mg base 5 "needs" (sp_needs K) [] := by
  obtain ⟨f, fd, F, hm, hb⟩ := Dn.ex
  refine ⟨f, fd, ["shop", "plan", "name"], [], ?_, hm, F.kp, hb, .nil⟩
  refine F.ok sc_needs (fun vs H Q E h => spA_len (fun _ => rfl) h) (fun cdv A outer s H vs Q E hr h => ?_)
  refine ⟨_, (pss_cons (ps_set (i := 3) sc_needs.nd rfl (.inl rfl) (pe_op op_rep (pe_lst (pa_cons pe_int pa_nil)) (pe_c C_days_of hr (by first | decide | omega) (by rfl) (pa_cons (pv 0) pa_nil))))
    (pss_cons (ps_for PassesOwn.never rfl (pi_tup (pe_ix ix_tup (pv 0) pe_int (fun _ _ => rfl))) (pg_tup rfl (pgs_cons (pg_name (i := 4) sc_needs.nd rfl (.inl rfl)) (pgs_cons (pg_name (i := 5) sc_needs.nd rfl (.inl rfl)) (pgs_cons (pg_name (i := 6) sc_needs.nd rfl (.inl rfl)) pgs_nil))))
    (pss_one (ps_if (pt_cmpR op_eq (pv 4) (pv 2) (nomark _))
      (pss_one (ps_augS (pv 3) (pv 5) get_list (pv 6) ip_add set_list))
      pss_nil)))
    (pss_cons (ps_for PassesOwn.never rfl (pi_tup (pe_ix ix_tup (pv 0) pe_int (fun _ _ => rfl))) (pg_name (i := 7) sc_needs.nd rfl (.inl rfl))
    (pss_one (ps_for PassesOwn.never rfl (pi_tup (pe_ix ix_tup (pv 7) pe_int (fun _ _ => rfl))) (pg_tup rfl (pgs_cons (pg_name (i := 8) sc_needs.nd rfl (.inl rfl)) (pgs_cons (pg_name (i := 6) sc_needs.nd rfl (.inl rfl)) pgs_nil)))
      (pss_one (ps_if (pt_cmpR op_eq (pv 8) (pv 2) (nomark _))
        (pss_one (ps_for PassesOwn.never rfl (pi_enum (by rfl) Z.b_enumerate (pa_cons (pe_c C_begun hr (by first | decide | omega) (by rfl) (pa_cons (pv 0) (pa_cons (pv 1) (pa_cons (pe_ix ix_tup (pv 7) pe_int (fun _ _ => rfl)) pa_nil)))) pa_nil)) (pg_tup rfl (pgs_cons (pg_name (i := 5) sc_needs.nd rfl (.inl rfl)) (pgs_cons (pg_name (i := 9) sc_needs.nd rfl (.inl rfl)) pgs_nil)))
          (pss_one (ps_augS (pv 3) (pv 5) get_list (pe_op (op_mul.or op_mulW) (pv 6) (pv 9)) ip_add set_list))))
        pss_nil)))))
    (pss_one (ps_ret (pv 3)))))), ?_⟩
  try dsimp only [cxOf, Cx.nox, Cx.wish]
  refine run_def (N := N_needs) (fun _ => Nat.le_of_ble_eq_true rfl) (env0 := fun x : Shop × List (Str × List Int) × Str × Nat => [.p (shopD x.1), .p (.dct (sdD intsD x.2.1)), .p (.str x.2.2.1), .u, .u, .u, .u, .u, .u, .u]) (fun _ => rfl) (fun B x hp L => ?_) h
  obtain ⟨s, pl, nm, n⟩ := x
  obtain ⟨ha, hn, hd, hlag, hpb, hrow⟩ := hp
  dsimp only at ha hn hd hlag hpb hrow ⊢
  have h1 := hn.one
  have hb : (n : Int) ≤ 1000 := by
    rcases hn.is with e | ⟨v, hv, e⟩
    · omega
    · have := hd v hv
      omega
  have duniq : ∀ m : Int, DaysOf s m → m = n := fun m hm => by
    have a1 : m ≤ n := by
      rcases hm.is with e | ⟨v, hv, e⟩
      · omega
      · have := hn.up v hv
        omega
    have a2 : (n : Int) ≤ m := by
      rcases hn.is with e | ⟨v, hv, e⟩
      · have := hm.one
        omega
      · have := hm.up v hv
        omega
    omega
  repeat walk_at "v"
  walk_at "c"
  repeat walk_at "v"
  refine ⟨s, rfl, ⟨ha, fun v hv => (hd v hv).1⟩, fun _ h => h, ?_⟩
  rintro _ ⟨m, rfl, hm⟩
  repeat walk_at "v"
  have := duniq m hm
  subst this
  refine vo_rep1 rfl (by omega) (by omega) ?_
  have e1 : List.replicate ((n : Nat) : Int).toNat (D.int 0) = (rowF n fun _ => 0).map D.int := by
    rw [← rowF_zero, List.map_replicate, Int.toNat_natCast]
  rw [e1]
  repeat walk_at "v"
  refine vs_for (vi_tup ?_)
  repeat walk_at "v"
  refine vo_ixT (d := .tup (s.wants.map wantD)) (atI_nat (j := 1) rfl) ?_
  refine ⟨_, rfl, fun i e => ∃ x4 x5 x6, e = [.p (shopD s), .p (.dct (sdD intsD pl)), .p (.str nm), .mu (.lst ((rowF n (wantOn (s.wants.take i) nm)).map D.int)), x4, x5, x6, .u, .u, .u], ⟨.u, .u, .u, rfl⟩, ?_, ?_⟩
  · rintro i d e hi ⟨x4, x5, x6, rfl⟩
    obtain ⟨⟨wn, day, am⟩, hw, ed⟩ := map_get hi
    have ed2 : d = .tup [.str wn, .int day, .int am] := ed
    subst ed2
    have hwm := List.mem_of_getElem? hw
    have hday := hd _ hwm
    have hup := hn.up _ hwm
    dsimp only at hday hup
    obtain ⟨day, rfl⟩ := Int.eq_ofNat_of_zero_le hday.1
    have hlt : day < n := by omega
    have hs : ∀ e, wantOn (s.wants.take (i + 1)) nm e = wantOn (s.wants.take i) nm e + if wn = nm ∧ day = e then am else 0 := fun e => by
      rw [take_one hw, wantOn_snoc]
      congr 1
      by_cases q : wn = nm ∧ day = e
      · rw [if_pos q, if_pos ⟨q.1, by show ((day : Nat) : Int) = e; rw [q.2]⟩]
      · rw [if_neg q, if_neg (fun z => q ⟨z.1, by have := z.2; dsimp only at this; omega⟩)]
    repeat walk_at "v"
    refine vs_if ?_
    repeat walk_at "v"
    refine ⟨fun hb => ?_, fun hb => ?_⟩
    · have hwn : wn = nm := of_decide_eq_true hb
      refine vs_augI rfl ?_
      repeat walk_at "v"
      refine ⟨_, day, _, rfl, ixN_nat (by rw [rowF_len]; exact hlt), rowF_get hlt, by rw [rowF_len]; omega, ?_⟩
      repeat walk_at "v"
      rw [rowF_set]
      refine ⟨.p (.str wn), .p (.int day), .p (.int am), ?_⟩
      rw [show rowF n (wantOn (s.wants.take (i + 1)) nm) = rowF n fun e => if e = day then wantOn (s.wants.take i) nm day + am else wantOn (s.wants.take i) nm e from rowF_congr fun e _ => by
        rw [hs]
        by_cases q : e = day
        · subst q
          rw [if_pos rfl, if_pos ⟨hwn, rfl⟩]
        · rw [if_neg q, if_neg (show ¬ (wn = nm ∧ day = e) from fun z => q z.2.symm)]
          omega]
      rfl
    · have hwn : ¬ wn = nm := of_decide_eq_false hb
      repeat walk_at "v"
      refine ⟨.p (.str wn), .p (.int day), .p (.int am), ?_⟩
      rw [show rowF n (wantOn (s.wants.take (i + 1)) nm) = rowF n (wantOn (s.wants.take i) nm) from rowF_congr fun e _ => by
        rw [hs, if_neg (fun z => hwn z.1)]
        omega]
      rfl
  · rintro e ⟨x4, x5, x6, rfl⟩
    rw [List.length_map, List.take_length]
    repeat walk_at "v"
    refine vs_for (vi_tup ?_)
    repeat walk_at "v"
    refine vo_ixT (d := .tup (s.ws.map wareD)) (atI_nat (j := 0) rfl) ?_
    refine ⟨_, rfl, fun i e => ∃ x4 x5 x6 x7 x8 x9, e = [.p (shopD s), .p (.dct (sdD intsD pl)), .p (.str nm), .mu (.lst ((rowF n fun d => wantOn s.wants nm d + takeOn pl (s.ws.take i) nm d).map D.int)), x4, x5, x6, x7, x8, x9], ⟨x4, x5, x6, .u, .u, .u, ?_⟩, ?_, ?_⟩
    · rw [show (rowF n fun d => wantOn s.wants nm d + takeOn pl (s.ws.take 0) nm d) = rowF n (wantOn s.wants nm) from rowF_congr fun e _ => by
        show wantOn s.wants nm e + 0 = _
        omega]
    · rintro i d e hi ⟨x4, x5, x6, x7, x8, x9, rfl⟩
      obtain ⟨v, hv, rfl⟩ := map_get hi
      have hvm := List.mem_of_getElem? hv
      have hlv := hlag v hvm
      repeat walk_at "v"
      refine vs_for (vi_tup ?_)
      repeat walk_at "v"
      refine vo_ixT (d := .tup (v.parts.map partD)) (atI_nat (j := 6) rfl) ?_
      refine ⟨_, rfl, fun j e => ∃ x4 x5 x6 x8 x9, e = [.p (shopD s), .p (.dct (sdD intsD pl)), .p (.str nm), .mu (.lst ((rowF n fun d => wantOn s.wants nm d + takeOn pl (s.ws.take i) nm d + takeParts pl v (v.parts.take j) nm d).map D.int)), x4, x5, x6, .p (wareD v), x8, x9], ⟨x4, x5, x6, x8, x9, ?_⟩, ?_, ?_⟩
      · rw [show (rowF n fun d => wantOn s.wants nm d + takeOn pl (s.ws.take i) nm d + takeParts pl v (v.parts.take 0) nm d) = rowF n fun d => wantOn s.wants nm d + takeOn pl (s.ws.take i) nm d from rowF_congr fun e _ => by
          show _ + 0 = _
          omega]
        rfl
      · rintro j d e hj ⟨x4, x5, x6, x8, x9, rfl⟩
        obtain ⟨⟨pn, am⟩, hpj, ed⟩ := map_get hj
        have ed2 : d = .tup [.str pn, .int am] := ed
        subst ed2
        have hpm := List.mem_of_getElem? hpj
        have ham := hpb v hvm _ hpm
        dsimp only at ham
        repeat walk_at "v"
        refine vs_if ?_
        repeat walk_at "v"
        refine ⟨fun hb => ?_, fun hb => ?_⟩
        · have hpn : pn = nm := of_decide_eq_true hb
          subst hpn
          obtain ⟨row, hr1, hr2, hr3⟩ := hrow v hvm (List.mem_map.mpr ⟨_, hpm, rfl⟩)
          have hbl := begunRow_len (row := row) hlv.1
          have hbo : ∀ d, begunOn pl v d = (begunRow v.lag row).getD d 0 := fun d => by unfold begunOn; rw [hr1]; rfl
          refine vs_for (vi_enum ?_)
          repeat walk_at "v"
          walk_at "c"
          repeat walk_at "v"
          refine vo_ixT (d := .str v.nm) (atI_nat (j := 0) rfl) ?_
          repeat walk_at "v"
          refine ⟨(s, pl, v, row), rfl, ⟨ha, hvm, hr1, by show row.length ≤ 1000; omega, hlv.1, hlv.2⟩, fun _ h => h, ?_⟩
          rintro _ rfl
          unfold intsD
          dsimp only
          repeat walk_at "v"
          refine ⟨_, _, rfl, rfl, fun k e => ∃ x5 x9, e = [.p (shopD s), .p (.dct (sdD intsD pl)), .p (.str pn), .mu (.lst ((rowF n fun d => wantOn s.wants pn d + takeOn pl (s.ws.take i) pn d + takeParts pl v (v.parts.take j) pn d + if d < k then am * begunOn pl v d else 0).map D.int)), x4, x5, .p (.int am), .p (wareD v), .p (.str pn), x9], ⟨x5, x9, ?_⟩, ?_, ?_⟩
          · rw [show (rowF n fun d => wantOn s.wants pn d + takeOn pl (s.ws.take i) pn d + takeParts pl v (v.parts.take j) pn d + if d < 0 then am * begunOn pl v d else 0) = rowF n fun d => wantOn s.wants pn d + takeOn pl (s.ws.take i) pn d + takeParts pl v (v.parts.take j) pn d from rowF_congr fun e _ => by
              rw [if_neg (Nat.not_lt_zero _)]
              omega]
            rfl
          · rintro k d e hk ⟨x5, x9, rfl⟩
            obtain ⟨d, hd2, rfl⟩ := enumD_get hk
            obtain ⟨lots, hl2, rfl⟩ := map_get hd2
            have hkn : k < n := by
              have := lt_of_get hl2
              omega
            have hlb : lots.natAbs.log2 < 400000 := by
              rcases begunRow_mem (List.mem_of_getElem? hl2) with q | q
              · exact hr3 lots q
              · rw [q]
                decide
            have hbk : begunOn pl v k = lots := by
              have h9 : (begunRow v.lag row)[k]? = some lots := hl2
              rw [hbo, List.getD_eq_getElem?_getD, h9]
              rfl
            repeat walk_at "v"
            refine vs_augI (i := 3) rfl ?_
            repeat walk_at "v"
            refine ⟨_, k, _, rfl, ixN_nat (by rw [rowF_len]; exact hkn), rowF_get hkn, by rw [rowF_len]; omega, ?_⟩
            repeat walk_at "v"
            · rw [rowF_set]
              refine ⟨.p (.int k), .p (.int lots), ?_⟩
              rw [show (rowF n fun d => wantOn s.wants pn d + takeOn pl (s.ws.take i) pn d + takeParts pl v (v.parts.take j) pn d + if d < k + 1 then am * begunOn pl v d else 0) = rowF n fun e => if e = k then wantOn s.wants pn k + takeOn pl (s.ws.take i) pn k + takeParts pl v (v.parts.take j) pn k + (if k < k then am * begunOn pl v k else 0) + am * lots else wantOn s.wants pn e + takeOn pl (s.ws.take i) pn e + takeParts pl v (v.parts.take j) pn e + (if e < k then am * begunOn pl v e else 0) from rowF_congr fun e _ => by
                by_cases q : e = k
                · subst q
                  rw [if_pos rfl, if_pos (Nat.lt_succ_self _), if_neg (Nat.lt_irrefl _), hbk]
                  omega
                · rw [if_neg q]
                  by_cases q2 : e < k
                  · rw [if_pos q2, if_pos (by omega)]
                  · rw [if_neg q2, if_neg (by omega)]]
              rfl
            · exact .inr (by show am.natAbs.log2 + lots.natAbs.log2 < 1000000; omega)
          · rintro e ⟨x5, x9, rfl⟩
            rw [enumD_len, List.length_map, hbl, hr2]
            refine ⟨x4, x5, .p (.int am), .p (.str pn), x9, ?_⟩
            rw [show (rowF n fun d => wantOn s.wants pn d + takeOn pl (s.ws.take i) pn d + takeParts pl v (v.parts.take (j + 1)) pn d) = rowF n fun d => wantOn s.wants pn d + takeOn pl (s.ws.take i) pn d + takeParts pl v (v.parts.take j) pn d + if d < n then am * begunOn pl v d else 0 from rowF_congr fun e he => by
              rw [take_one hpj, takeParts_snoc, if_pos rfl, if_pos he]
              dsimp only
              omega]
            rfl
        · have hpn : ¬ pn = nm := of_decide_eq_false hb
          repeat walk_at "v"
          refine ⟨x4, x5, .p (.int am), .p (.str pn), x9, ?_⟩
          rw [show (rowF n fun d => wantOn s.wants nm d + takeOn pl (s.ws.take i) nm d + takeParts pl v (v.parts.take (j + 1)) nm d) = rowF n fun d => wantOn s.wants nm d + takeOn pl (s.ws.take i) nm d + takeParts pl v (v.parts.take j) nm d from rowF_congr fun e he => by
            rw [take_one hpj, takeParts_snoc, if_neg hpn]
            omega]
          rfl
      · rintro e ⟨x4, x5, x6, x8, x9, rfl⟩
        rw [List.length_map, List.take_length]
        refine ⟨x4, x5, x6, .p (wareD v), x8, x9, ?_⟩
        rw [show (rowF n fun d => wantOn s.wants nm d + takeOn pl (s.ws.take (i + 1)) nm d) = rowF n fun d => wantOn s.wants nm d + takeOn pl (s.ws.take i) nm d + takeParts pl v v.parts nm d from rowF_congr fun e he => by
          rw [take_one hv, takeOn_snoc]
          omega]
    · rintro e ⟨x4, x5, x6, x7, x8, x9, rfl⟩
      rw [List.length_map, List.take_length]
      repeat walk_at "v"
      rfl

end
/-! ### planned -/
abbrev s_planned : Stmt := topS 22
abbrev N_planned : List Str := ["shop", "rows", "name", "ware", "lots", "day"]
theorem sc_planned : FnScope N_planned ["shop"] (defScope s_planned) := ⟨rfl, rfl, rfl, by decide +kernel, rfl, by decide +kernel, by decide +kernel⟩
section
variable {P : Program} {w : World} {K : PySem.W.Frag} {mg : Str → Option Value} {base : Heap}
abbrev sp_planned (K : PySem.W.Frag) : Sp := SpA K (Gd K) false (fun x : Shop × Nat => [shopD x.1]) (fun x => PlanIn x.1 x.2) (fun x d => PlanTold x.1 x.2 d) noRs
theorem c_planned (Dn : Dfn K mg "planned" s_planned ["shop"]) (Z : Glb K mg) (C_worked : Cal P w K mg base 5 "worked" (sp_worked K) []) (C_least_lots : Cal P w K mg base 2 "least_lots" (sp_least_lots K) []) (C_needs : Cal P w K mg base 5 "needs" (sp_needs K) []) (C_had : Cal P w K mg base 5 "had" (sp_had K) []) (C_ware_of : Cal P w K mg base 1 "ware_of" (sp_ware_of K) []) : Cal P w K mg base 6 "planned" (sp_planned K) [] := by
  obtain ⟨f, fd, F, hm, hb⟩ := Dn.ex
  refine ⟨f, fd, ["shop"], [], ?_, hm, F.kp, hb, .nil⟩
  refine F.ok sc_planned (fun vs H Q E h => spA_len (fun _ => rfl) h) (fun cdv A outer s H vs Q E hr h => ?_)
  refine ⟨_, (pss_cons (ps_set (i := 1) sc_planned.nd rfl (.inl rfl) pe_dnewK)
    (pss_cons (ps_for PassesOwn.never rfl (pi_list (pe_c C_worked hr (by first | decide | omega) (by rfl) (pa_cons (pv 0) pa_nil))) (pg_name (i := 2) sc_planned.nd rfl (.inl rfl))
    (pss_cons (ps_set (i := 3) sc_planned.nd rfl (.inl rfl) (pe_c C_ware_of hr (by first | decide | omega) (by rfl) (pa_cons (pv 0) (pa_cons (pv 2) pa_nil))))
      (pss_cons (ps_set (i := 4) sc_planned.nd rfl (.inl rfl) (pe_c C_least_lots hr (by first | decide | omega) (by rfl) (pa_cons (pe_c C_had hr (by first | decide | omega) (by rfl) (pa_cons (pv 0) (pa_cons (pv 2) pa_nil))) (pa_cons (pe_c C_needs hr (by first | decide | omega) (by rfl) (pa_cons (pv 0) (pa_cons (pv 1) (pa_cons (pv 2) pa_nil)))) (pa_cons (pe_ix ix_tup (pv 3) pe_int (fun _ _ => rfl)) (pa_cons (pe_ix ix_tup (pv 3) pe_int (fun _ _ => rfl)) pa_nil))))))
      (pss_cons (ps_for PassesOwn.never rfl (pi_range1 (by rfl) Z.b_range (pa_cons (pe_callB (call_min2 rfl) (by rfl) Z.b_min (by decide +kernel) (pa_cons (pe_ix ix_tup (pv 3) pe_int (fun _ _ => rfl)) (pa_cons (pe_callB call_len_seq (by rfl) Z.b_len PySem.boot_len (pa_cons (pv 4) pa_nil)) pa_nil))) pa_nil)) (pg_name (i := 5) sc_planned.nd rfl (.inl rfl))
      (pss_one (ps_if (pt_cmpR op_gt (pe_ix ix_list (pv 4) (pv 5) (fun _ _ => rfl)) pe_int (nomark _))
        (pss_one (ps_ret (pe_tup (pa_cons pe_str (pa_cons (pv 1) (pa_cons (pv 2) (pa_cons (pv 5) (pa_cons (pe_ix ix_list (pv 4) (pv 5) (fun _ _ => rfl)) pa_nil))))))))
        pss_nil)))
      (pss_one (ps_dput (hu_of hr) (pv 1) (pv 2) (pv 4) rfl))))))
    (pss_one (ps_ret (pe_tup (pa_cons pe_str (pa_cons (pv 1) pa_nil))))))), ?_⟩
  try dsimp only [cxOf, Cx.nox, Cx.wish]
  refine run_def (N := N_planned) (fun _ => Nat.le_of_ble_eq_true rfl) (env0 := fun x : Shop × Nat => [.p (shopD x.1), .u, .u, .u, .u, .u]) (fun _ => rfl) (fun B x hp L => ?_) h
  obtain ⟨s, n⟩ := x
  dsimp only at hp ⊢
  have hA := hp.a
  have h12 := hp.hi
  have hwl := worked_len s
  have hn := hp.n
  have nd := workedOf_nodup hA.ok.nd
  repeat walk_at "v"
  refine vs_for (vi_l ?_)
  repeat walk_at "v"
  walk_at "c"
  repeat walk_at "v"
  refine ⟨s, rfl, hA, fun _ h => h, ?_⟩
  rintro _ rfl
  repeat walk_at "v"
  refine ⟨_, rfl, fun i e => ∃ x y z u, e = [.p (shopD s), .mu (.dct (sdD intsD (planTo s n i))), x, y, z, u] ∧ ∀ v ∈ s.ws, v.nm ∈ (workedOf s).take i → ∀ d x, ¬ Early s n v d x, ⟨.u, .u, .u, .u, rfl, fun v _ hv => (by rw [List.take_zero] at hv; cases hv)⟩, ?_, ?_⟩
  · rintro i d e hi ⟨x, y, z, u, rfl, hno⟩
    obtain ⟨nm, hnm, rfl⟩ := map_get hi
    have hmw := List.mem_of_getElem? hnm
    obtain ⟨w, hw, rfl⟩ := ware_named (workedOf_mem.mp hmw)
    have hwg := hp.ws w hw
    have hnew := not_take nd hnm
    have hil := lt_of_get hnm
    have hrl := rowOf_len hA (n := n) hw
    have hneed : NeedsIn s (planTo s n i) w.nm n := ⟨hA, hp.dn, fun v hv => (hp.w v hv).1, fun v hv => by have := (hp.ws v hv).lag; omega, fun v hv p hp2 => by
        have := (hp.ws v hv).parts p hp2
        have := bigM_log (show (0 : Int) ≤ p.2 by omega) (Int.le_trans (Int.le_of_lt this.2) (by decide : (10 : Int) ^ 42 ≤ bigM 13))
        omega, fun v hv hm => by
        obtain ⟨p, hp2, e⟩ := List.mem_map.mp hm
        have hvn : v.nm ∈ s.names := List.mem_map_of_mem (f := fun w : Ware => w.nm) hv
        obtain ⟨k, hk⟩ := List.getElem?_of_mem (workedOf_mem.mpr hvn)
        obtain ⟨j, hj, hj2⟩ := parts_behind hA hv hk hp2
        rw [e] at hj2
        have hji := (List.getElem?_inj (lt_of_get hj2) nd).mp (hj2.trans hnm.symm)
        subst hji
        exact ⟨_, rowOf_get hA.ok.nd hk hj (Nat.le_of_lt hil), rowOf_len hA hv, fun x hx => by have := plan_log hp hv x hx; omega⟩⟩
    have hrow : leastLots (rowF n (hadF w)) (rowF n (needF s (planTo s n i) w.nm)) w.gives w.floor = rowOf s n w.nm := by
      rw [rowOf_eq hA hw, rowF_congr fun d _ => need_ahead hA hnm d]
    repeat walk_at "v"
    walk_at "c"
    repeat walk_at "v"
    refine ⟨(s, w), rfl, ⟨hA.ok.nd, hw⟩, fun _ h => h, ?_⟩
    rintro _ rfl
    repeat walk_at "v"
    walk_at "c"
    repeat walk_at "v"
    walk_at "c"
    repeat walk_at "v"
    refine ⟨(s, w), rfl, ⟨hA, hw, fun v hv => by have := (hp.w v hv).1; omega, fun p hp => (hwg.com p hp).1.1⟩, fun _ h => h, ?_⟩
    rintro _ ⟨m, hm, rfl⟩
    repeat walk_at "v"
    have hmn : m = n := by have := days_uniq hp.dn hm; omega
    subst hmn
    walk_at "cmo"
    repeat walk_at "v"
    refine ⟨(s, planTo s m i, w.nm, m), rfl, hneed, fun _ h => h, ?_⟩
    rintro _ rfl
    refine ⟨flat_ints _, ⟨_, rfl⟩, ?_⟩
    repeat walk_at "v"
    refine vo_ixT (d := .int w.gives) (atI_nat (j := 2) rfl) ?_
    repeat walk_at "v"
    refine vo_ixT (d := .int w.floor) (atI_nat (j := 3) rfl) ?_
    repeat walk_at "v"
    refine ⟨(rowF m (hadF w), rowF m (needF s (planTo s m i) w.nm), w.gives, w.floor), rfl, ⟨by rw [rowF_len]; omega, by rw [rowF_len]; omega, by show 0 < w.gives; have := hwg.gives.1; omega, by
      have := bigM_log (show (0 : Int) ≤ w.gives by have := hwg.gives.1; omega) (Int.le_trans (Int.le_of_lt hwg.gives.2) (by decide : (10 : Int) ^ 42 ≤ bigM 13))
      show w.gives.natAbs.log2 < 9000
      omega⟩, fun _ h => h, ?_⟩
    rintro _ rfl
    dsimp only
    rw [hrow]
    repeat walk_at "v"
    refine vs_for (vi_range1 ?_)
    repeat walk_at "v"
    refine vo_ixT (d := .int w.lag) (atI_nat (j := 1) rfl) ?_
    repeat walk_at "v"
    rw [List.length_map, hrl]
    refine ⟨_, rfl, ⟨by have := hwg.lag; omega, by have := hwg.lag; omega⟩, fun k e => ∃ u, e = [.p (shopD s), .mu (.dct (sdD intsD (planTo s m i))), .p (.str w.nm), .p (wareD w), .p (intsD (rowOf s m w.nm)), u] ∧ ∀ e, e < k → ∀ x, ¬ Early s m w e x, ⟨u, rfl, fun e he => by omega⟩, ?_, ?_⟩
    · rintro k d e hk ⟨u, rfl, hk2⟩
      obtain ⟨hk3, rfl⟩ := rangeD_get hk
      have e0 : (0 : Int) + ((k : Nat) : Int) = (k : Nat) := by omega
      rw [e0]
      have hkl : k < (rowOf s m w.nm).length := by omega
      have hkg : (rowOf s m w.nm)[k]? = some (rowOf s m w.nm)[k] := List.getElem?_eq_getElem hkl
      generalize (rowOf s m w.nm)[k] = lots at hkg
      repeat walk_at "v"
      refine vs_if ?_
      repeat walk_at "v"
      refine vo_ixL rfl (atI_get D.int hkg) ?_
      repeat walk_at "v"
      refine ⟨fun hb => ?_, fun hb => ?_⟩
      · have hl0 : 0 < lots := of_decide_eq_true hb
        refine vs_freeze 1 rfl ?_
        repeat walk_at "v"
        refine vo_ixL rfl (atI_get D.int hkg) ?_
        repeat walk_at "v"
        exact ⟨rfl, .short hnm hw hno ⟨hkg, hl0, by omega⟩ hk2⟩
      · have hl0 : ¬ 0 < lots := of_decide_eq_false hb
        repeat walk_at "v"
        refine ⟨_, rfl, fun e he x hx => ?_⟩
        by_cases q : e = k
        · subst q
          obtain ⟨x1, x2, x3⟩ := hx
          rw [hkg] at x1
          cases x1
          exact hl0 x2
        · exact hk2 e (by omega) x hx
    · rintro e ⟨u, rfl, hk2⟩
      rw [rangeD_len] at hk2
      have hnoE : ∀ d x, ¬ Early s m w d x := fun d x hx => by
        obtain ⟨x1, x2, x3⟩ := hx
        have h5 := lt_of_get x1
        exact hk2 d (by omega) x ⟨x1, x2, x3⟩
      repeat walk_at "v"
      refine vs_dput rfl ?_
      repeat walk_at "v"
      refine ⟨_, rfl, ?_⟩
      repeat walk_at "v"
      refine ⟨.inr w.nm, rfl, ?_, ?_⟩
      · have := congrArg List.length (planTo_keys s m i (Nat.le_of_lt hil))
        rw [List.length_map, List.length_take] at this
        unfold sdD
        rw [List.length_map]
        omega
      · have h3 : putD (sdD intsD (planTo s m i)) (.inr w.nm) (intsD (rowOf s m w.nm)) = sdD intsD (planTo s m i ++ [(w.nm, rowOf s m w.nm)]) := putD_newS intsD (by rw [planTo_keys s m i (Nat.le_of_lt hil)]; exact hnew)
        have h4 : planTo s m (i + 1) = planTo s m i ++ [(w.nm, rowOf s m w.nm)] := by
          rw [planTo_succ hnm, rowAt_eq hA.ok.nd hw, hrow]
        rw [h3, ← h4]
        refine ⟨_, _, _, _, rfl, fun v hv hvt => ?_⟩
        rw [take_one hnm] at hvt
        rcases List.mem_append.mp hvt with q | q
        · exact hno v hv q
        · have := ware_uniq hA.ok.nd hv hw (List.mem_singleton.mp q)
          subst this
          exact hnoE
  · rintro e ⟨x, y, z, u, rfl, hno⟩
    rw [List.length_map, List.take_length] at hno
    rw [List.length_map]
    refine vs_freeze 1 rfl ?_
    repeat walk_at "v"
    exact ⟨rfl, .plan fun v hv => hno v hv (workedOf_mem.mpr (List.mem_map_of_mem (f := fun w : Ware => w.nm) hv))⟩

end
/-! ### _law_plans_right -/
abbrev s__law_plans_right : Stmt := topS 36
abbrev N__law_plans_right : List Str := ["shops", "both", "told", "whole", "many", "shop", "one", "ware", "row"]
theorem sc__law_plans_right : FnScope N__law_plans_right ["shops", "both"] (defScope s__law_plans_right) := ⟨rfl, rfl, rfl, by decide +kernel, rfl, by decide +kernel, by decide +kernel⟩
theorem told_cases {s : Shop} {n : Nat} {d : D} (h : PlanTold s n d) : ∃ z r, d = .tup (.str z :: r) ∧ ((z = "plan" ∧ Has s n ∧ r = [.dct (sdD intsD (leastPlan s n))]) ∨ (z = "short" ∧ ¬ Has s n)) := by
  cases h with
  | plan h => exact ⟨_, _, rfl, .inl ⟨rfl, h, rfl⟩⟩
  | short _ hw _ he _ => exact ⟨_, _, rfl, .inr ⟨rfl, fun q => q _ hw _ _ he⟩⟩
section
variable {P : Program} {w : World} {K : PySem.W.Frag} {mg : Str → Option Value} {base : Heap}
abbrev sp__law_plans_right (K : PySem.W.Frag) : Sp := SpA K (Gd K) false (fun x : Shop × Shop × Shop => [.lst [shopD x.1, shopD x.2.1], shopD x.2.2]) (fun x => Beside x.1 x.2.1 x.2.2) (fun x d => d = .bl true) noRs
theorem c__law_plans_right (Dn : Dfn K mg "_law_plans_right" s__law_plans_right ["shops", "both"]) (Z : Glb K mg) (C_days_of : Cal P w K mg base 4 "days_of" (sp_days_of K) []) (C_planned : Cal P w K mg base 6 "planned" (sp_planned K) []) : Cal P w K mg base 7 "_law_plans_right" (sp__law_plans_right K) [] := by
  obtain ⟨f, fd, F, hm, hb⟩ := Dn.ex
  refine ⟨f, fd, ["shops", "both"], [], ?_, hm, F.kp, hb, .nil⟩
  refine F.ok sc__law_plans_right (fun vs H Q E h => spA_len (fun _ => rfl) h) (fun cdv A outer s H vs Q E hr h => ?_)
  refine ⟨_, (pss_cons (ps_setLc (i := 2) (own := [("shop", 5)]) rfl sc__law_plans_right.nd rfl rfl (sw_true rfl rfl rfl (by decide +kernel)) (pi_list (pv 0)) (blkOk_by (N := N__law_plans_right) (sc := defScope s__law_plans_right) (by decide +kernel)) (fun _ _ _ _ _ => (pg_name (i := 5) sc__law_plans_right.nd rfl (.inl rfl))) (fun _ _ _ _ _ => pts_nil) (fun _ _ _ _ _ => (pe_c C_planned hr (by first | decide | omega) (by rfl) (pa_cons (pv 5) pa_nil))))
    (pss_cons (ps_set (i := 3) sc__law_plans_right.nd rfl (.inl rfl) (pe_c C_planned hr (by first | decide | omega) (by rfl) (pa_cons (pv 1) pa_nil)))
    (pss_cons (ps_if (pt_cmpR (op_neD hr.units) (pe_lc (own := [("one", 6)]) rfl sc__law_plans_right.nd (pi_list (pv 2)) (blkOk_by (N := N__law_plans_right) (sc := defScope s__law_plans_right) (by decide +kernel)) (fun _ _ _ _ _ => (pg_name (i := 6) sc__law_plans_right.nd rfl (.inl rfl))) (fun _ _ _ _ _ => pts_nil) (fun _ _ _ _ _ => (pe_ix (show IxR _ (rIxT K) from ix_tup) (pv 6) pe_int (fun _ _ => rfl)))) (pe_lst (pa_cons pe_str (pa_cons pe_str pa_nil))) (nomark _))
    (pss_one (ps_ret (pe_cmpR op_eq (pe_ix ix_tup (pv 3) pe_int (fun _ _ => rfl)) pe_str (nomark _))))
    pss_nil)
    (pss_cons (ps_if ((pw_or (pt_cmpR op_ne (pe_ix ix_tup (pv 3) pe_int (fun _ _ => rfl)) pe_str (nomark _)) (pw_or1 (pt_cmpR op_ne (pe_callB call_lenD (by rfl) Z.b_len PySem.boot_len (pa_cons (pe_ix ix_tup (pv 3) pe_int (fun _ _ => rfl)) pa_nil)) (pe_callB call_len_seq (by rfl) Z.b_len PySem.boot_len (pa_cons (pe_ix ix_tup (pv 1) pe_int (fun _ _ => rfl)) pa_nil)) (nomark _))))).pt
    (pss_one (ps_ret pe_bl))
    pss_nil)
    (pss_cons (ps_set (i := 4) sc__law_plans_right.nd rfl (.inl rfl) (pe_c C_days_of hr (by first | decide | omega) (by rfl) (pa_cons (pv 1) pa_nil)))
    (pss_cons (ps_for PassesOwn.never rfl (pi_zip (by rfl) Z.b_zip (pa_cons (pv 0) (pa_cons (pv 2) pa_nil))) (pg_tup rfl (pgs_cons (pg_name (i := 5) sc__law_plans_right.nd rfl (.inl rfl)) (pgs_cons (pg_name (i := 6) sc__law_plans_right.nd rfl (.inl rfl)) pgs_nil)))
    (pss_one (ps_for PassesOwn.never rfl (pi_tup (pe_ix ix_tup (pv 5) pe_int (fun _ _ => rfl))) (pg_name (i := 7) sc__law_plans_right.nd rfl (.inl rfl))
      (pss_cons (ps_set (i := 8) sc__law_plans_right.nd rfl (.inl rfl) (pe_dget (hu_of hr) (pe_ix ix_tup (pv 6) pe_int (fun _ _ => rfl)) (pe_ix ix_tup (pv 7) pe_int (fun _ _ => rfl)) (fun _ _ => rfl)))
        (pss_one (ps_if (pt_cmpR (op_neD hr.units) (pe_dget (hu_of hr) (pe_ix ix_tup (pv 3) pe_int (fun _ _ => rfl)) (pe_ix ix_tup (pv 7) pe_int (fun _ _ => rfl)) (fun _ _ => rfl)) (pe_op op_cat (pv 8) (pe_op op_rep (pe_lst (pa_cons pe_int pa_nil)) (pe_op op_sub (pv 4) (pe_callB call_len_seq (by rfl) Z.b_len PySem.boot_len (pa_cons (pv 8) pa_nil))))) (nomark _))
        (pss_one (ps_ret pe_bl))
        pss_nil))))))
    (pss_one (ps_ret pe_bl)))))))), ?_⟩
  try dsimp only [cxOf, Cx.nox, Cx.wish]
  refine run_def (N := N__law_plans_right) (fun _ => Nat.le_of_ble_eq_true rfl) (env0 := fun x : Shop × Shop × Shop => [.p (.lst [shopD x.1, shopD x.2.1]), .p (shopD x.2.2), .u, .u, .u, .u, .u, .u, .u]) (fun _ => rfl) (fun B x hp L => ?_) h
  obtain ⟨a, b, s⟩ := x
  dsimp only at hp ⊢
  have hg := hp.g
  have hA := hp.sh
  obtain ⟨k, hk⟩ := days_ex a fun v hv => (hp.ga.wants.ok v hv).2.1.1
  obtain ⟨m, hm⟩ := days_ex b fun v hv => (hp.gb.wants.ok v hv).2.1.1
  obtain ⟨n, hn⟩ := days_ex s fun v hv => (hg.wants.ok v hv).2.1.1
  have pa := hp.ga.plan hp.aa hk
  have pb := hp.gb.plan hp.ab hm
  have ps := hg.plan hp.ac hn
  have hn9 := ps.n
  have hbes := hp.has hk hm hn
  refine vs_seq ?_
  repeat ((fail_if_success (with_reducible refine vs_next ?_)); (fail_if_success (with_reducible refine vs_seq ?_)); (fail_if_success (with_reducible refine vs_asg ?_)); walk_at "u")
  refine vs_asg ?_
  refine ve_lc (hu1 rfl) (only_name (by decide)) (vi_l ?_)
  repeat ((fail_if_success (with_reducible refine vs_next ?_)); (fail_if_success (with_reducible refine vs_seq ?_)); (fail_if_success (with_reducible refine vs_asg ?_)); walk_at "u")
  refine ⟨_, rfl, by show 2 < 100000; decide, fun j acc => acc.length = j ∧ (∀ d, acc[0]? = some d → PlanTold a k d) ∧ (∀ d, acc[1]? = some d → PlanTold b m d), ⟨rfl, fun d h => (by cases h), fun d h => (by cases h)⟩, ?_, ?_⟩
  · rintro q j d acc hj ⟨hl, ha, hb⟩
    obtain ⟨u, c, hu, rfl, hcd⟩ : ∃ (u : Shop) (c : Nat), PlanIn u c ∧ d = shopD u ∧ ((j = 0 ∧ ∀ e, PlanTold u c e → PlanTold a k e) ∨ (j = 1 ∧ ∀ e, PlanTold u c e → PlanTold b m e)) := by
      match j, hj with
      | 0, hj => cases hj; exact ⟨a, k, pa, rfl, .inl ⟨rfl, fun _ h => h⟩⟩
      | 1, hj => cases hj; exact ⟨b, m, pb, rfl, .inr ⟨rfl, fun _ h => h⟩⟩
    repeat walk_at "v"
    refine ⟨.set .refl (by decide), ?_⟩
    repeat walk_at "v"
    refine and_t rfl ?_
    repeat walk_at "v"
    walk_at "c"
    repeat walk_at "v"
    refine ⟨(u, c), rfl, hu, fun _ h => h, ?_⟩
    rintro e he
    refine fz_p ⟨_, rfl, by rw [List.length_append, hl]; rfl, fun d hd => ?_, fun d hd => ?_⟩
    · rcases hcd with ⟨rfl, g⟩ | ⟨rfl, g⟩
      · rw [List.length_eq_zero_iff.mp hl] at hd
        cases hd
        exact g _ he
      · rw [List.getElem?_append_left (by omega)] at hd
        exact ha d hd
    · rcases hcd with ⟨rfl, g⟩ | ⟨rfl, g⟩
      · rw [List.length_eq_zero_iff.mp hl] at hd
        cases hd
      · rw [List.getElem?_append_right (by omega), hl] at hd
        cases hd
        exact g _ he
  rintro acc ⟨hl, ha, hb⟩
  obtain ⟨d1, d2, rfl⟩ : ∃ d1 d2, acc = [d1, d2] := by
    match acc, hl with
    | [x, y], _ => exact ⟨x, y, rfl⟩
  have hd1 := ha d1 rfl
  have hd2 := hb d2 rfl
  repeat ((fail_if_success (with_reducible refine vs_next ?_)); (fail_if_success (with_reducible refine vs_seq ?_)); (fail_if_success (with_reducible refine vs_asg ?_)); walk_at "u")
  refine vs_frz 2 (.inr rfl) ?_
  repeat walk_at "v"
  walk_at "c"
  repeat walk_at "v"
  refine ⟨(s, n), rfl, ps, fun _ h => h, ?_⟩
  rintro dw hdw
  obtain ⟨z1, r1, rfl, hz1⟩ := told_cases hd1
  obtain ⟨z2, r2, rfl, hz2⟩ := told_cases hd2
  obtain ⟨z, r, rfl, hz⟩ := told_cases hdw
  repeat walk_at "v"
  refine vs_if ?_
  repeat walk_at "v"
  refine ve_lcT (xs := [(z1, r1), (z2, r2)]) (g := fun p : Str × List D => D.tup (.str p.1 :: p.2)) (h := D.str) (fun p => some p.1) (hu1 rfl) (only_name (by decide)) (vi_l ?_)
  repeat walk_at "v"
  refine ⟨_, rfl, rfl, by show 2 < 100000; decide, fun q i p hpi => ?_, ?_⟩
  · repeat walk_at "v"
    refine ⟨.set .refl (by decide), ?_⟩
    repeat walk_at "v"
    refine and_t rfl ?_
    repeat walk_at "v"
    refine vo_ixT (d := .str p.1) (atI_nat (j := 0) rfl) ?_
    exact fz_p ⟨_, rfl, rfl⟩
  rw [fm_some]
  repeat walk_at "v"
  have hcase : (z1 = "plan" ∧ z2 = "plan" ∧ Has s n ∧ r1 = [.dct (sdD intsD (leastPlan a k))] ∧ r2 = [.dct (sdD intsD (leastPlan b m))]) ∨
      (D.cmpN 60 (.lst [.str z1, .str z2]) = true ∧ D.eqv (.lst [.str z1, .str z2]) (.lst [.str "plan", .str "plan"]) = false ∧ ¬ Has s n) := by
    rcases hz1 with ⟨rfl, hs1, rfl⟩ | ⟨rfl, hs1⟩
    · rcases hz2 with ⟨rfl, hs2, rfl⟩ | ⟨rfl, hs2⟩
      · exact .inl ⟨rfl, rfl, hbes.mpr ⟨hs1, hs2⟩, rfl, rfl⟩
      · exact .inr ⟨by decide +kernel, by decide +kernel, fun q => hs2 (hbes.mp q).2⟩
    · rcases hz2 with ⟨rfl, hs2, rfl⟩ | ⟨rfl, hs2⟩
      · exact .inr ⟨by decide +kernel, by decide +kernel, fun q => hs1 (hbes.mp q).1⟩
      · exact .inr ⟨by decide +kernel, by decide +kernel, fun q => hs1 (hbes.mp q).1⟩
  rcases hcase with ⟨rfl, rfl, hs, rfl, rfl⟩ | ⟨hc1, hc2, hs⟩
  · rcases hz with ⟨rfl, _, rfl⟩ | ⟨_, hs'⟩
    · refine vo_neS (d := .lst [.str "plan", .str "plan"]) rfl rfl (by decide +kernel) ?_
      refine ⟨_, rfl, and_f rfl ?_⟩
      repeat walk_at "v"
      refine vs_if ?_
      repeat walk_at "v"
      refine vo_ixT (d := .str "plan") (atI_nat (j := 0) rfl) ?_
      repeat walk_at "v"
      refine and_f (show (!decide ((("plan" : Str)) = "plan")) = false by rw [decide_eq_true rfl]; rfl) ?_
      repeat walk_at "v"
      refine vo_ixT (d := .dct (sdD intsD (leastPlan s n))) (atI_nat (j := 1) rfl) ?_
      repeat walk_at "v"
      refine vc_lenD rfl ?_
      repeat walk_at "v"
      refine vo_ixT (d := .tup (s.ws.map wareD)) (atI_nat (j := 0) rfl) ?_
      repeat walk_at "v"
      have elen : (sdD intsD (leastPlan s n)).length = (s.ws.map wareD).length := by
        unfold sdD
        rw [List.length_map, List.length_map, plan_fn hg.nd]
        unfold fnS
        rw [List.length_map, worked_len]
      refine and_f (show (!decide (((sdD intsD (leastPlan s n)).length : Int) = ((s.ws.map wareD).length : Int))) = false by rw [elen, decide_eq_true rfl]; rfl) ?_
      repeat walk_at "v"
      walk_at "c"
      repeat walk_at "v"
      refine ⟨s, rfl, ⟨hA, fun v hv => (hg.wants.ok v hv).2.1.1⟩, fun _ h => h, ?_⟩
      rintro _ ⟨n', rfl, hn'⟩
      repeat walk_at "v"
      cases days_uniq hn hn'
      refine vs_for (vi_zip ?_)
      repeat walk_at "v"
      have hF : ∀ (i : Nat) (x y : D), [shopD a, shopD b][i]? = some x → [D.tup [.str "plan", .dct (sdD intsD (leastPlan a k))], D.tup [.str "plan", .dct (sdD intsD (leastPlan b m))]][i]? = some y →
          ∃ (u : Shop) (c : Nat), x = shopD u ∧ y = .tup [.str "plan", .dct (sdD intsD (leastPlan u c))] ∧ PlanIn u c ∧ c ≤ n ∧ ShopG u ∧ ∀ z ∈ u.names, z ∈ s.names ∧ rowOf s n z = rowOf u c z ++ List.replicate (n - c) 0 := fun i x y hx hy => by
        match i, hx, hy with
        | 0, hx, hy => cases hx; cases hy; exact ⟨a, k, rfl, rfl, pa, hp.days hk hn, hp.ga, fun z hz => ⟨hp.nm hz, hp.row hk hn z hz⟩⟩
        | 1, hx, hy => cases hx; cases hy; exact ⟨b, m, rfl, rfl, pb, hp.symm.days hm hn, hp.gb, fun z hz => ⟨hp.symm.nm hz, hp.symm.row hm hn z hz⟩⟩
      refine ⟨_, _, _, _, rfl, rfl, rfl, fun i e => ∃ x y z w, e = [.p (.lst [shopD a, shopD b]), .p (shopD s), .p (.lst [.tup [.str "plan", .dct (sdD intsD (leastPlan a k))], .tup [.str "plan", .dct (sdD intsD (leastPlan b m))]]), .p (.tup [.str "plan", .dct (sdD intsD (leastPlan s n))]), .p (.int n), x, y, z, w], ⟨.u, .u, .u, .u, rfl⟩, ?_, ?_⟩
      · rintro i d e hi ⟨x, y, z, w, rfl⟩
        obtain ⟨d1, d2, hd1, hd2, rfl⟩ := zipD_get hi
        obtain ⟨u, c, rfl, rfl, pu, hcn, gu, hu⟩ := hF i d1 d2 hd1 hd2
        repeat walk_at "v"
        refine vs_for (vi_tup ?_)
        repeat walk_at "v"
        refine vo_ixT (d := .tup (u.ws.map wareD)) (atI_nat (j := 0) rfl) ?_
        repeat walk_at "v"
        refine ⟨_, rfl, fun i e => ∃ z w, e = [.p (.lst [shopD a, shopD b]), .p (shopD s), .p (.lst [.tup [.str "plan", .dct (sdD intsD (leastPlan a k))], .tup [.str "plan", .dct (sdD intsD (leastPlan b m))]]), .p (.tup [.str "plan", .dct (sdD intsD (leastPlan s n))]), .p (.int n), .p (shopD u), .p (.tup [.str "plan", .dct (sdD intsD (leastPlan u c))]), z, w], ⟨z, w, rfl⟩, ?_, ?_⟩
        · rintro i d e hi ⟨z, w, rfl⟩
          obtain ⟨v, hv, rfl⟩ := map_get hi
          have hvm := List.mem_of_getElem? hv
          have hvn : v.nm ∈ u.names := List.mem_map_of_mem (f := fun w : Ware => w.nm) hvm
          obtain ⟨hsn, hrow⟩ := hu v.nm hvn
          have hlen := rowOf_len pu.a (n := c) hvm
          repeat walk_at "v"
          refine vo_ixT (d := .dct (sdD intsD (leastPlan u c))) (atI_nat (j := 1) rfl) ?_
          repeat walk_at "v"
          refine vo_ixT (d := .str v.nm) (atI_nat (j := 0) rfl) ?_
          repeat walk_at "v"
          refine ⟨_, .inr v.nm, _, rfl, rfl, by rw [valD_S, plan_get gu.nd hvn]; rfl, ?_⟩
          repeat walk_at "v"
          refine vs_if ?_
          repeat walk_at "v"
          refine vo_ixT (d := .dct (sdD intsD (leastPlan s n))) (atI_nat (j := 1) rfl) ?_
          repeat walk_at "v"
          refine vo_ixT (d := .str v.nm) (atI_nat (j := 0) rfl) ?_
          repeat walk_at "v"
          refine ⟨_, .inr v.nm, _, rfl, rfl, by rw [valD_S, plan_get hg.nd hsn]; rfl, ?_⟩
          repeat walk_at "v"
          have el : ((rowOf u c v.nm).map D.int).length = c := by rw [List.length_map, hlen]
          rw [el]
          refine vo_rep1 rfl (by omega) (by omega) ?_
          repeat walk_at "v"
          have en : ((n : Int) - (c : Int)).toNat = n - c := by omega
          rw [en]
          refine vo_cat (ds := (rowOf u c v.nm).map D.int) rfl rfl (by rw [List.length_map, List.length_replicate]; omega) ?_
          have er : (rowOf u c v.nm).map D.int ++ List.replicate (n - c) (D.int 0) = (rowOf s n v.nm).map D.int := by
            rw [hrow, List.map_append, List.map_replicate]
          rw [er]
          repeat walk_at "v"
          refine vo_neS (d := intsD (rowOf s n v.nm)) rfl rfl (cmpN_ints 59 _) ?_
          refine ⟨_, rfl, and_f rfl ?_⟩
          repeat walk_at "v"
          exact ⟨_, _, rfl⟩
        · rintro e ⟨z, w, rfl⟩
          exact ⟨_, _, _, _, rfl⟩
      · rintro e ⟨x, y, z, w, rfl⟩
        repeat walk_at "v"
        exact ⟨rfl, rfl⟩
    · exact absurd hs hs'
  · rcases hz with ⟨_, hs', _⟩ | ⟨rfl, _⟩
    · exact absurd hs' hs
    · refine vo_neN (d := .lst [.str z1, .str z2]) (e := .lst [.str "plan", .str "plan"]) rfl rfl hc1 (by decide +kernel) ?_
      rw [hc2]
      refine ⟨_, rfl, and_t rfl ?_⟩
      repeat walk_at "v"
      refine vo_ixT (d := .str "short") (atI_nat (j := 0) rfl) ?_
      repeat walk_at "v"
      exact ⟨rfl, congrArg D.bl (decide_eq_true rfl)⟩

end
/-! ### _law_together -/
abbrev s__law_together : Stmt := topS 35
abbrev N__law_together : List Str := ["first", "second", "whole", "found", "name"]
theorem sc__law_together : FnScope N__law_together ["first", "second", "whole"] (defScope s__law_together) := ⟨rfl, rfl, rfl, by decide +kernel, rfl, by decide +kernel, by decide +kernel⟩
section
variable {P : Program} {w : World} {K : PySem.W.Frag} {mg : Str → Option Value} {base : Heap}
abbrev sp__law_together (K : PySem.W.Frag) : Sp := SpA K (Gd K) false (fun x : List (Str × Int) × List (Str × Int) × List (Str × Int) => [.dct (sdD D.int x.1), .dct (sdD D.int x.2.1), .dct (sdD D.int x.2.2)]) (fun x => x.2.2.Perm (x.1 ++ x.2.1) ∧ (x.2.2.map (·.1)).Nodup ∧ x.1.length ≤ 100 ∧ x.2.1.length ≤ 100) (fun x d => d = .bl true) noRs
theorem c__law_together (Dn : Dfn K mg "_law_together" s__law_together ["first", "second", "whole"]) (Z : Glb K mg)  : Cal P w K mg base 1 "_law_together" (sp__law_together K) [] := by
  obtain ⟨f, fd, F, hm, hb⟩ := Dn.ex
  refine ⟨f, fd, ["first", "second", "whole"], [], ?_, hm, F.kp, hb, .nil⟩
  refine F.ok sc__law_together (fun vs H Q E h => spA_len (fun _ => rfl) h) (fun cdv A outer s H vs Q E hr h => ?_)
  refine ⟨_, (pss_cons (ps_set (i := 3) sc__law_together.nd rfl (.inl rfl) (pe_callTy call_dictD (by rfl) Z.b_dict (by decide +kernel) (pa_cons (pv 0) pa_nil)))
    (pss_cons (ps_lock (ps_for PassesOwn.never rfl (pi_keys (pv 1)) (pg_name (i := 4) sc__law_together.nd rfl (.inl rfl))
    (pss_one (ps_dput (hu_of hr) (pv 3) (pv 4) (pe_dget (hu_of hr) (pv 1) (pv 4) (fun _ _ => rfl)) rfl))))
    (pss_one (ps_ret (pe_cmpR (op_eq_dictA (units_lt hr)) (pv 2) (pv 3) (nomark _)))))), ?_⟩
  try dsimp only [cxOf, Cx.nox, Cx.wish]
  refine run_def (N := N__law_together) (fun _ => Nat.le_of_ble_eq_true rfl) (env0 := fun x : List (Str × Int) × List (Str × Int) × List (Str × Int) => [.p (.dct (sdD D.int x.1)), .p (.dct (sdD D.int x.2.1)), .p (.dct (sdD D.int x.2.2)), .u, .u]) (fun _ => rfl) (fun B x hp L => ?_) h
  obtain ⟨t1, t2, t⟩ := x
  obtain ⟨hpm, nd0, h1, h2⟩ := hp
  dsimp only at hpm nd0 h1 h2 ⊢
  have nd : ((t1 ++ t2).map (·.1)).Nodup := (hpm.map (·.1)).nodup_iff.mp nd0
  have noI : ∀ u : List (Str × Int), ((sdD D.int u).all fun p => D.noD 9 p.2) = true := fun u => List.all_eq_true.mpr fun p hp => by
    obtain ⟨q, _, rfl⟩ := List.mem_map.mp hp
    rfl
  repeat walk_at "v"
  refine vc_dictD rfl ?_
  repeat walk_at "v"
  refine vs_hide 0 rfl fun a0 => ?_
  refine vs_hide 2 rfl fun a2 => ?_
  refine vs_lockP (i := 1) rfl (noI t2) (by
    show ([Slot.p (.ptr a0), .u, .p (.ptr a2), .mu (.dct (sdD D.int t1)), .u].all Slot.noD) = true
    have e : Slot.noD (.mu (.dct (sdD D.int t1))) = true := noI t1
    simp only [List.all_cons, List.all_nil, e, Bool.and_true]
    rfl) fun a => ?_
  refine vs_for (vi_keys ?_)
  repeat walk_at "v"
  refine ⟨a, _, rfl, fun i e => ∃ (x : Slot), e = [.p (.ptr a0), .p (.lkd a (sdD D.int t2)), .p (.ptr a2), .mu (.dct (sdD D.int (t1 ++ t2.take i))), x] ∧ x.noD = true, ⟨.u, by rw [List.take_zero, List.append_nil]; rfl, rfl⟩, ?_, ?_⟩
  · rintro i d e hi ⟨x, rfl, hx⟩
    obtain ⟨q, hq, rfl⟩ := map_get hi
    obtain ⟨⟨z, v⟩, hz, rfl⟩ := map_get hq
    have hil := lt_of_get hz
    repeat walk_at "v"
    refine vs_dput rfl ?_
    repeat walk_at "v"
    have nd2 : (t2.map (·.1)).Nodup := by
      rw [List.map_append] at nd
      exact (List.nodup_append.mp nd).2.1
    refine ⟨_, .inr z, .int v, rfl, rfl, ?_, ?_⟩
    · rw [valD_S, getS_of nd2 (List.mem_of_getElem? hz)]
      rfl
    refine ⟨_, rfl, ?_⟩
    repeat walk_at "v"
    refine ⟨.inr z, rfl, by unfold sdD; rw [List.length_map, List.length_append, List.length_take]; omega, ?_⟩
    have hnew : z ∉ (t1 ++ t2.take i).map (·.1) := by
      rw [List.map_append, List.map_take]
      rw [List.map_append] at nd
      have hz1 : (t2.map (·.1))[i]? = some z := by rw [List.getElem?_map, hz]; rfl
      intro q
      rcases List.mem_append.mp q with q | q
      · exact (List.nodup_append.mp nd).2.2 z q z (List.mem_of_getElem? hz1) rfl
      · exact not_take nd2 hz1 q
    have ep : putD (sdD D.int (t1 ++ t2.take i)) (.inr z) (.int v) = sdD D.int (t1 ++ t2.take (i + 1)) := by
      rw [take_one hz, ← List.append_assoc]
      exact putD_newS D.int hnew
    rw [ep]
    exact ⟨_, rfl, rfl⟩
  · rintro e ⟨x, rfl, hx⟩
    have hlen : ((sdD D.int t2).map fun p => keyD p.1).length = t2.length := by unfold sdD; rw [List.length_map, List.length_map]
    rw [hlen, List.take_length]
    refine ⟨unl_of rfl ?_, rfl, rfl, ?_⟩
    · show ([Slot.p (.ptr a0), .u, .p (.ptr a2), .mu (.dct (sdD D.int (t1 ++ t2))), x].all Slot.noD) = true
      have e : Slot.noD (.mu (.dct (sdD D.int (t1 ++ t2)))) = true := noI _
      simp only [List.all_cons, List.all_nil, e, hx, Bool.and_true]
      rfl
    show VS K (Gd K) B _ [.p (.dct (sdD D.int t1)), .p (.dct (sdD D.int t2)), .p (.dct (sdD D.int t)), .mu (.dct (sdD D.int (t1 ++ t2))), x] _ _ _ _
    repeat walk_at "v"
    refine vo_eqDP (t := t1 ++ t2) (u := t) nd hpm rfl rfl ?_
    repeat walk_at "v"
    exact ⟨rfl, rfl⟩

end
/-! ### law -/
abbrev s_law : Stmt := topS 37
abbrev N_law : List Str := ["script", "state", "shops", "wares", "both", "deed"]
theorem sc_law : FnScope N_law ["script"] (defScope s_law) := ⟨rfl, rfl, rfl, by decide +kernel, rfl, by decide +kernel, by decide +kernel⟩
section
variable {P : Program} {w : World} {K : PySem.W.Frag} {mg : Str → Option Value} {base : Heap}
abbrev sp_law (K : PySem.W.Frag) : Sp := SpA K (Gd K) false (fun ns : List Int => [.ro (ns.map D.int)]) (fun ns => ns.length ≤ 63) (fun _ d => d = .bl true) noRs
theorem c_law {fl : Addr} {fdl : FuncData} (F : Fun K "law" "law" s_law fl fdl) (Z : Glb K mg) (C_levels : Cal P w K mg base 4 "levels" (sp_levels K) []) (C_times : Cal P w K mg base 6 "times" (sp_times K) []) (C_explode : Cal P w K mg base 6 "explode" (sp_explode K) []) (C__law_together : Cal P w K mg base 1 "_law_together" (sp__law_together K) []) (C__law_plans_right : Cal P w K mg base 7 "_law_plans_right" (sp__law_plans_right K) []) (C__law_among : Cal P w K mg base 2 "_law_among" (sp__law_among K) []) (C__law_small : Cal P w K mg base 5 "_law_small" (sp__law_small K) []) (C__law_drawn : Cal P w K mg base 1 "_law_drawn" (sp__law_drawn K) []) : FnOk P w K mg base CX0 8 fl fdl ["script"] (sp_law K) := by
  refine F.ok sc_law (fun vs H Q E h => spA_len (fun _ => rfl) h) (fun cdv A outer s H vs Q E hr h => ?_)
  refine ⟨_, (pss_cons (ps_set (i := 1) sc_law.nd rfl (.inl rfl) (pe_c C__law_drawn hr (by first | decide | omega) (by rfl) (pa_cons (pv 0) pa_nil)))
    (pss_cons (ps_set (i := 2) sc_law.nd rfl (.inl rfl) (pe_lst (pa_cons (pe_c C__law_small hr (by first | decide | omega) (by rfl) (pa_cons (pv 1) (pa_cons pe_str pa_nil))) (pa_cons (pe_c C__law_small hr (by first | decide | omega) (by rfl) (pa_cons (pv 1) (pa_cons pe_str pa_nil))) pa_nil))))
    (pss_cons (ps_set (i := 3) sc_law.nd rfl (.inl rfl) (pe_c C__law_among hr (by first | decide | omega) (by rfl) (pa_cons (pv 1) (pa_cons (pe_ix ix_tup (pe_ix ix_list (pv 2) pe_int (fun _ _ => rfl)) pe_int (fun _ _ => rfl)) (pa_cons (pe_ix ix_tup (pe_ix ix_list (pv 2) pe_int (fun _ _ => rfl)) pe_int (fun _ _ => rfl)) pa_nil)))))
    (pss_cons (ps_set (i := 4) sc_law.nd rfl (.inl rfl) (pe_tup (pa_cons (pv 3) (pa_cons (pe_c C__law_among hr (by first | decide | omega) (by rfl) (pa_cons (pv 1) (pa_cons (pe_ix ix_tup (pe_ix ix_list (pv 2) pe_int (fun _ _ => rfl)) pe_int (fun _ _ => rfl)) (pa_cons (pe_ix ix_tup (pe_ix ix_list (pv 2) pe_int (fun _ _ => rfl)) pe_int (fun _ _ => rfl)) pa_nil)))) pa_nil))))
    (pss_cons (ps_if (pt_not (pt_val (pe_c C__law_plans_right hr (by first | decide | omega) (by rfl) (pa_cons (pv 2) (pa_cons (pv 4) pa_nil)))))
    (pss_one (ps_ret pe_bl))
    pss_nil)
    (pss_cons (ps_for PassesOwn.never rfl (pi_tup (pe_tup (pa_cons (pe_def (by rfl)) (pa_cons (pe_def (by rfl)) (pa_cons (pe_def (by rfl)) pa_nil))))) (pg_name (i := 5) sc_law.nd rfl (.inl rfl))
    (pss_one (ps_if (pt_not (pt_val (pe_c C__law_together hr (by first | decide | omega) (by rfl) (pa_cons (pe_callR (i := 5) (cals_cons C_explode (by first | decide | omega) (cals_cons C_times (by first | decide | omega) (cals_cons C_levels (by first | decide | omega) cals_nil))) hr rfl (.inl rfl) (pa_cons (pe_ix ix_list (pv 2) pe_int (fun _ _ => rfl)) pa_nil)) (pa_cons (pe_callR (i := 5) (cals_cons C_explode (by first | decide | omega) (cals_cons C_times (by first | decide | omega) (cals_cons C_levels (by first | decide | omega) cals_nil))) hr rfl (.inl rfl) (pa_cons (pe_ix ix_list (pv 2) pe_int (fun _ _ => rfl)) pa_nil)) (pa_cons (pe_callR (i := 5) (cals_cons C_explode (by first | decide | omega) (cals_cons C_times (by first | decide | omega) (cals_cons C_levels (by first | decide | omega) cals_nil))) hr rfl (.inl rfl) (pa_cons (pv 4) pa_nil)) pa_nil))))))
      (pss_one (ps_ret pe_bl))
      pss_nil)))
    (pss_one (ps_ret pe_bl)))))))), ?_⟩
  try dsimp only [cxOf, Cx.nox, Cx.wish]
  refine run_def (N := N_law) (fun _ => Nat.le_of_ble_eq_true rfl) (env0 := fun ns => [.p (.ro (ns.map D.int)), .u, .u, .u, .u, .u]) (fun _ => rfl) (fun B ns hp L => ?_) h
  repeat walk_at "u"
  refine vs_seq ?_
  repeat walk_at "u"
  walk_at "co"
  repeat walk_at "v"
  refine ⟨ns, rfl, hp, fun _ h => h, ?_⟩
  rintro _ ⟨st, rfl, gs⟩
  refine ⟨flat_ints _, .inl ⟨_, rfl⟩, ?_⟩
  repeat walk_at "u"
  refine vs_toSt 1 rfl gs ?_
  refine vs_seq ?_
  repeat walk_at "u"
  walk_at "c"
  repeat walk_at "v"
  refine ⟨_, rfl, .inl rfl, fun _ h => h, ?_⟩
  rintro _ ⟨a, rfl, ga, aa, la, va, na⟩
  repeat walk_at "v"
  walk_at "c"
  repeat walk_at "v"
  refine ⟨_, rfl, .inr rfl, fun _ h => h, ?_⟩
  rintro _ ⟨b, rfl, gb, ab, lb, vb, nb⟩
  repeat ((fail_if_success (with_reducible refine vs_next ?_)); (fail_if_success (with_reducible refine vs_seq ?_)); (fail_if_success (with_reducible refine vs_asg ?_)); walk_at "u")
  refine vs_frz 2 (.inr rfl) ?_
  repeat walk_at "v"
  walk_at "c"
  repeat walk_at "v"
  refine vo_ixL rfl (d := shopD a) (atI_nat (j := 0) rfl) ?_
  repeat walk_at "v"
  refine vo_ixT (d := .tup (a.ws.map wareD)) (atI_nat (j := 0) rfl) ?_
  repeat walk_at "v"
  refine vo_ixL rfl (d := shopD b) (atI_nat (j := 1) rfl) ?_
  repeat walk_at "v"
  refine vo_ixT (d := .tup (b.ws.map wareD)) (atI_nat (j := 0) rfl) ?_
  repeat walk_at "v"
  refine ⟨(a.ws.map wareD, b.ws.map wareD), rfl, ⟨by rw [List.length_map]; omega, by rw [List.length_map]; omega⟩, fun _ h => h, ?_⟩
  rintro _ ⟨ds, rfl, hds⟩
  dsimp only at hds
  rw [← List.map_append] at hds
  obtain ⟨ws, rfl, hws⟩ := perm_map hds
  repeat walk_at "v"
  walk_at "c"
  repeat walk_at "v"
  refine vo_ixL rfl (d := shopD a) (atI_nat (j := 0) rfl) ?_
  repeat walk_at "v"
  refine vo_ixT (d := .tup (a.wants.map wantD)) (atI_nat (j := 1) rfl) ?_
  repeat walk_at "v"
  refine vo_ixL rfl (d := shopD b) (atI_nat (j := 1) rfl) ?_
  repeat walk_at "v"
  refine vo_ixT (d := .tup (b.wants.map wantD)) (atI_nat (j := 1) rfl) ?_
  repeat walk_at "v"
  refine ⟨(a.wants.map wantD, b.wants.map wantD), rfl, ⟨by rw [List.length_map]; omega, by rw [List.length_map]; omega⟩, fun _ h => h, ?_⟩
  rintro _ ⟨ds, rfl, hds⟩
  dsimp only at hds
  rw [← List.map_append] at hds
  obtain ⟨vs, rfl, hvs⟩ := perm_map hds
  have hb : Beside a b ⟨ws, vs⟩ := ⟨hws, hvs, ga, aa, gb, ab, fun x hx hy => signed_ne x (na x hx) (nb x hy), by omega, by omega⟩
  have hwk : (workedOf ⟨ws, vs⟩).Perm (workedOf a ++ workedOf b) := (workedOf_perm _).trans (hb.names.trans ((workedOf_perm a).append (workedOf_perm b)).symm)
  have hlen : ∀ {n1 : List Str} (f : Str → Int), (fnS n1 f).length = n1.length := fun f => List.length_map ..
  have l12 : ∀ u : Shop, (workedOf u).length = u.ws.length := worked_len
  have dif : ∀ {n1 : List Str} {n2 : List Str} {n : List Str} {f1 f2 f : Str → Int}, n.Perm (n1 ++ n2) → n.Nodup → (∀ x ∈ n1, f x = f1 x) → (∀ x ∈ n2, f x = f2 x) → n1.length ≤ 100 → n2.length ≤ 100 →
      (fnS n f).Perm (fnS n1 f1 ++ fnS n2 f2) ∧ ((fnS n f).map (·.1)).Nodup ∧ (fnS n1 f1).length ≤ 100 ∧ (fnS n2 f2).length ≤ 100 := fun hp nd h1 h2 l1 l2 => ⟨fn_beside hp h1 h2, by rw [fnS_keys]; exact nd, by rw [hlen]; exact l1, by rw [hlen]; exact l2⟩
  repeat walk_at "v"
  refine vs_if ?_
  repeat walk_at "v"
  walk_at "c"
  repeat walk_at "v"
  refine ⟨(a, b, ⟨ws, vs⟩), rfl, hb, fun _ h => h, ?_⟩
  rintro _ rfl
  repeat walk_at "v"
  refine and_f rfl ?_
  repeat walk_at "v"
  refine vs_for (vi_tup ?_)
  repeat walk_at "v"
  refine ve_def (C_explode.at' fun f1 hf1 => ?_)
  repeat walk_at "v"
  refine ve_def (C_times.at' fun f2 hf2 => ?_)
  repeat walk_at "v"
  refine ve_def (C_levels.at' fun f3 hf3 => ?_)
  repeat walk_at "v"
  refine ⟨_, rfl, fun i e => ∃ x, e = [.p (.ro (ns.map D.int)), .p .st, .p (.lst [shopD a, shopD b]), .p (.tup (ws.map wareD)), .p (shopD ⟨ws, vs⟩), x], ⟨.u, rfl⟩, ?_, ?_⟩
  · rintro i d e hi ⟨x, rfl⟩
    match i, hi with
    | 0, hi =>
      cases hi
      repeat walk_at "v"
      refine vs_if ?_
      repeat walk_at "v"
      walk_at "c"
      repeat walk_at "v"
      refine ve_callR rfl (.head _) hf1 ?_
      walk_at "c"
      repeat walk_at "v"
      refine vo_ixL rfl (d := shopD a) (atI_nat (j := 0) rfl) ?_
      repeat walk_at "v"
      refine ⟨a, rfl, ⟨ga, aa⟩, fun _ h => h, ?_⟩
      rintro _ ⟨g1, rfl, e1, _⟩
      repeat walk_at "v"
      refine ve_callR rfl (.head _) hf1 ?_
      walk_at "c"
      repeat walk_at "v"
      refine vo_ixL rfl (d := shopD b) (atI_nat (j := 1) rfl) ?_
      repeat walk_at "v"
      refine ⟨b, rfl, ⟨gb, ab⟩, fun _ h => h, ?_⟩
      rintro _ ⟨g2, rfl, e2, _⟩
      repeat walk_at "v"
      refine ve_callR rfl (.head _) hf1 ?_
      walk_at "c"
      repeat walk_at "v"
      refine ⟨⟨ws, vs⟩, rfl, ⟨hb.g, hb.ac⟩, fun _ h => h, ?_⟩
      rintro _ ⟨g, rfl, e0, _⟩
      repeat walk_at "v"
      refine ⟨(fnS (workedOf a) g1, fnS (workedOf b) g2, fnS (workedOf ⟨ws, vs⟩) g), rfl, dif hwk (workedOf_nodup hb.g.nd) (fun x hx => hb.expl e0 e1 x (workedOf_mem.mp hx)) (fun x hx => hb.symm.expl e0 e2 x (workedOf_mem.mp hx)) (by rw [l12]; omega) (by rw [l12]; omega), fun _ h => h, ?_⟩
      rintro _ rfl
      repeat walk_at "v"
      refine and_f rfl ?_
      repeat walk_at "v"
      exact ⟨_, rfl⟩
    | 1, hi =>
      cases hi
      repeat walk_at "v"
      refine vs_if ?_
      repeat walk_at "v"
      walk_at "c"
      repeat walk_at "v"
      refine ve_callR rfl (.tail _ (.head _)) hf2 ?_
      walk_at "c"
      repeat walk_at "v"
      refine vo_ixL rfl (d := shopD a) (atI_nat (j := 0) rfl) ?_
      repeat walk_at "v"
      refine ⟨a, rfl, (ga.a aa), fun _ h => h, ?_⟩
      rintro _ ⟨g1, rfl, e1⟩
      repeat walk_at "v"
      refine ve_callR rfl (.tail _ (.head _)) hf2 ?_
      walk_at "c"
      repeat walk_at "v"
      refine vo_ixL rfl (d := shopD b) (atI_nat (j := 1) rfl) ?_
      repeat walk_at "v"
      refine ⟨b, rfl, (gb.a ab), fun _ h => h, ?_⟩
      rintro _ ⟨g2, rfl, e2⟩
      repeat walk_at "v"
      refine ve_callR rfl (.tail _ (.head _)) hf2 ?_
      walk_at "c"
      repeat walk_at "v"
      refine ⟨⟨ws, vs⟩, rfl, hb.sh, fun _ h => h, ?_⟩
      rintro _ ⟨g, rfl, e0⟩
      repeat walk_at "v"
      refine ⟨(fnS (workedOf a).reverse g1, fnS (workedOf b).reverse g2, fnS (workedOf ⟨ws, vs⟩).reverse g), rfl, dif ((List.reverse_perm _).trans (hwk.trans ((List.reverse_perm _).append (List.reverse_perm _)).symm)) ((List.reverse_perm _).nodup_iff.mpr (workedOf_nodup hb.g.nd)) (fun x hx => hb.times e0 e1 x (workedOf_mem.mp (List.mem_reverse.mp hx))) (fun x hx => hb.symm.times e0 e2 x (workedOf_mem.mp (List.mem_reverse.mp hx))) (by rw [List.length_reverse, l12]; omega) (by rw [List.length_reverse, l12]; omega), fun _ h => h, ?_⟩
      rintro _ rfl
      repeat walk_at "v"
      refine and_f rfl ?_
      repeat walk_at "v"
      exact ⟨_, rfl⟩
    | 2, hi =>
      cases hi
      repeat walk_at "v"
      refine vs_if ?_
      repeat walk_at "v"
      walk_at "c"
      repeat walk_at "v"
      refine ve_callR rfl (.tail _ (.tail _ (.head _))) hf3 ?_
      walk_at "c"
      repeat walk_at "v"
      refine vo_ixL rfl (d := shopD a) (atI_nat (j := 0) rfl) ?_
      repeat walk_at "v"
      refine ⟨a, rfl, (ga.a aa), fun _ h => h, ?_⟩
      rintro _ rfl
      repeat walk_at "v"
      refine ve_callR rfl (.tail _ (.tail _ (.head _))) hf3 ?_
      walk_at "c"
      repeat walk_at "v"
      refine vo_ixL rfl (d := shopD b) (atI_nat (j := 1) rfl) ?_
      repeat walk_at "v"
      refine ⟨b, rfl, (gb.a ab), fun _ h => h, ?_⟩
      rintro _ rfl
      repeat walk_at "v"
      refine ve_callR rfl (.tail _ (.tail _ (.head _))) hf3 ?_
      walk_at "c"
      repeat walk_at "v"
      refine ⟨⟨ws, vs⟩, rfl, hb.sh, fun _ h => h, ?_⟩
      rintro _ rfl
      repeat walk_at "v"
      refine ⟨(fnS a.names (levF (partsOf a)), fnS b.names (levF (partsOf b)), fnS (Shop.mk ws vs).names (levF (partsOf ⟨ws, vs⟩))), rfl, dif hb.names hb.g.nd hb.lev hb.symm.lev (by rw [names_len]; omega) (by rw [names_len]; omega), fun _ h => h, ?_⟩
      rintro _ rfl
      repeat walk_at "v"
      refine and_f rfl ?_
      repeat walk_at "v"
      exact ⟨_, rfl⟩
  · rintro e ⟨x, rfl⟩
    repeat walk_at "v"
    exact ⟨rfl, rfl⟩

end
theorem all_mk {l : PySem.W.OpenLaw} {w : World} {K : PySem.W.Frag} {h : Heap} {mg : Str → Option Value} {fa : Addr}
{od0 an0 : Option Addr} {sl0 : Array (Option Value)} {oc0 kV0 dc0 pm0 cd0 ct0 : Value} {f0 : Addr}
    {od1 an1 : Option Addr} {sl1 : Array (Option Value)} {oc1 kV1 dc1 pm1 cd1 ct1 : Value} {f1 : Addr}
    {od2 an2 : Option Addr} {sl2 : Array (Option Value)} {oc2 kV2 dc2 pm2 cd2 ct2 : Value} {f2 : Addr}
    {od3 an3 : Option Addr} {sl3 : Array (Option Value)} {oc3 kV3 dc3 pm3 cd3 ct3 : Value} {f3 : Addr}
    {od4 an4 : Option Addr} {sl4 : Array (Option Value)} {oc4 kV4 dc4 pm4 cd4 ct4 : Value} {f4 : Addr}
    {od5 an5 : Option Addr} {sl5 : Array (Option Value)} {oc5 kV5 dc5 pm5 cd5 ct5 : Value} {f5 : Addr}
    {od6 an6 : Option Addr} {sl6 : Array (Option Value)} {oc6 kV6 dc6 pm6 cd6 ct6 : Value} {f6 : Addr}
    {od7 an7 : Option Addr} {sl7 : Array (Option Value)} {oc7 kV7 dc7 pm7 cd7 ct7 : Value} {f7 : Addr}
    {od8 an8 : Option Addr} {sl8 : Array (Option Value)} {oc8 kV8 dc8 pm8 ct8 : Value} {f8 : Addr}
    {od9 an9 : Option Addr} {sl9 : Array (Option Value)} {oc9 kV9 dc9 pm9 cd9 ct9 : Value} {f9 : Addr}
    {od10 an10 : Option Addr} {sl10 : Array (Option Value)} {oc10 kV10 dc10 pm10 cd10 ct10 : Value} {f10 : Addr}
    {od11 an11 : Option Addr} {sl11 : Array (Option Value)} {oc11 kV11 dc11 pm11 cd11 ct11 : Value} {f11 : Addr}
    {od12 an12 : Option Addr} {sl12 : Array (Option Value)} {oc12 kV12 dc12 pm12 cd12 ct12 : Value} {f12 : Addr}
    {od13 an13 : Option Addr} {sl13 : Array (Option Value)} {oc13 kV13 dc13 pm13 cd13 ct13 : Value} {f13 : Addr}
    {od14 an14 : Option Addr} {sl14 : Array (Option Value)} {oc14 kV14 dc14 pm14 cd14 ct14 : Value} {f14 : Addr}
    {od15 an15 : Option Addr} {sl15 : Array (Option Value)} {oc15 kV15 dc15 pm15 cd15 ct15 : Value} {f15 : Addr}
    {od16 an16 : Option Addr} {sl16 : Array (Option Value)} {oc16 kV16 dc16 pm16 cd16 ct16 : Value} {f16 : Addr}
    {od17 an17 : Option Addr} {sl17 : Array (Option Value)} {oc17 kV17 dc17 pm17 cd17 ct17 : Value} {f17 : Addr}
    {od18 an18 : Option Addr} {sl18 : Array (Option Value)} {oc18 kV18 dc18 pm18 cd18 ct18 : Value} {f18 : Addr}
    {od19 an19 : Option Addr} {sl19 : Array (Option Value)} {oc19 kV19 dc19 pm19 cd19 ct19 : Value} {f19 : Addr}
    {od20 an20 : Option Addr} {sl20 : Array (Option Value)} {oc20 kV20 dc20 pm20 cd20 ct20 : Value} {f20 : Addr}
    {od21 an21 : Option Addr} {sl21 : Array (Option Value)} {oc21 kV21 dc21 pm21 cd21 ct21 : Value} {f21 : Addr}
    {od22 an22 : Option Addr} {sl22 : Array (Option Value)} {oc22 kV22 dc22 pm22 cd22 ct22 : Value} {f22 : Addr}
    {od23 an23 : Option Addr} {sl23 : Array (Option Value)} {oc23 kV23 dc23 pm23 cd23 ct23 : Value} {f23 : Addr}
    {od24 an24 : Option Addr} {sl24 : Array (Option Value)} {oc24 kV24 dc24 pm24 cd24 ct24 : Value} {f24 : Addr}
    {od25 an25 : Option Addr} {sl25 : Array (Option Value)} {oc25 kV25 dc25 pm25 cd25 ct25 : Value} {f25 : Addr}
    {od26 an26 : Option Addr} {sl26 : Array (Option Value)} {oc26 kV26 dc26 pm26 cd26 ct26 : Value} {f26 : Addr}
    {od27 an27 : Option Addr} {sl27 : Array (Option Value)} {oc27 kV27 dc27 pm27 cd27 ct27 : Value} {f27 : Addr}
    {cT pT : Addr} {q : Program} {oT : Value} {odT : Option Addr} {vsT : Array Value} {slT : Array (Option Value)} (X : K.In h) (G : h.Ns mainGlobals mg) (T : ∃ lo mean mb, PyProof.Rows.Top q lo mean mg mb h) (rq : ∃ d, (PyProof.Rows.recsOf q).find? (fun e => e.name == ("worked" : Str)) = some d) (lT : K.lookup cT = some ⟨oT, odT, .fields vsT, slT⟩) (vT : vsT[11]? = some (.ref pT)) (hn : K.lookup pT = none) (hfa : mg "law" = some (.ref fa))
    (a0 : PySem.W.nsIn K mainGlobals "_law_drawn" = some (some (.ref f0))) (l0 : K.lookup f0 = some ⟨oc0, od0, .func (PySem.W.fnOf "_law_drawn" "_law_drawn" (defArgs s__law_drawn) (defBody s__law_drawn) (defScope s__law_drawn) .none kV0 dc0 pm0 an0 cd0 ct0), sl0⟩) (e0 : PySem.W.codeIn K cd0 "_law_drawn" = true) (k0 : PySem.W.keepIn K (.ref f0) = true)
    (a1 : PySem.W.nsIn K mainGlobals "_law_next" = some (some (.ref f1))) (l1 : K.lookup f1 = some ⟨oc1, od1, .func (PySem.W.fnOf "_law_next" "_law_next" (defArgs s__law_next) (defBody s__law_next) (defScope s__law_next) .none kV1 dc1 pm1 an1 cd1 ct1), sl1⟩) (e1 : PySem.W.codeIn K cd1 "_law_next" = true) (k1 : PySem.W.keepIn K (.ref f1) = true)
    (a2 : PySem.W.nsIn K mainGlobals "_law_among" = some (some (.ref f2))) (l2 : K.lookup f2 = some ⟨oc2, od2, .func (PySem.W.fnOf "_law_among" "_law_among" (defArgs s__law_among) (defBody s__law_among) (defScope s__law_among) .none kV2 dc2 pm2 an2 cd2 ct2), sl2⟩) (e2 : PySem.W.codeIn K cd2 "_law_among" = true) (k2 : PySem.W.keepIn K (.ref f2) = true)
    (a3 : PySem.W.nsIn K mainGlobals "parts_by_name" = some (some (.ref f3))) (l3 : K.lookup f3 = some ⟨oc3, od3, .func (PySem.W.fnOf "parts_by_name" "parts_by_name" (defArgs s_parts_by_name) (defBody s_parts_by_name) (defScope s_parts_by_name) .none kV3 dc3 pm3 an3 cd3 ct3), sl3⟩) (e3 : PySem.W.codeIn K cd3 "parts_by_name" = true) (k3 : PySem.W.keepIn K (.ref f3) = true)
    (a4 : PySem.W.nsIn K mainGlobals "without_ends" = some (some (.ref f4))) (l4 : K.lookup f4 = some ⟨oc4, od4, .func (PySem.W.fnOf "without_ends" "without_ends" (defArgs s_without_ends) (defBody s_without_ends) (defScope s_without_ends) .none kV4 dc4 pm4 an4 cd4 ct4), sl4⟩) (e4 : PySem.W.codeIn K cd4 "without_ends" = true) (k4 : PySem.W.keepIn K (.ref f4) = true)
    (a5 : PySem.W.nsIn K mainGlobals "ring" = some (some (.ref f5))) (l5 : K.lookup f5 = some ⟨oc5, od5, .func (PySem.W.fnOf "ring" "ring" (defArgs s_ring) (defBody s_ring) (defScope s_ring) .none kV5 dc5 pm5 an5 cd5 ct5), sl5⟩) (e5 : PySem.W.codeIn K cd5 "ring" = true) (k5 : PySem.W.keepIn K (.ref f5) = true)
    (a6 : PySem.W.nsIn K mainGlobals "check_rings" = some (some (.ref f6))) (l6 : K.lookup f6 = some ⟨oc6, od6, .func (PySem.W.fnOf "check_rings" "check_rings" (defArgs s_check_rings) (defBody s_check_rings) (defScope s_check_rings) .none kV6 dc6 pm6 an6 cd6 ct6), sl6⟩) (e6 : PySem.W.codeIn K cd6 "check_rings" = true) (k6 : PySem.W.keepIn K (.ref f6) = true)
    (a7 : PySem.W.nsIn K mainGlobals "levels" = some (some (.ref f7))) (l7 : K.lookup f7 = some ⟨oc7, od7, .func (PySem.W.fnOf "levels" "levels" (defArgs s_levels) (defBody s_levels) (defScope s_levels) .none kV7 dc7 pm7 an7 cd7 ct7), sl7⟩) (e7 : PySem.W.codeIn K cd7 "levels" = true) (k7 : PySem.W.keepIn K (.ref f7) = true)
    (a8 : PySem.W.nsIn K mainGlobals "worked" = some (some (.ref f8))) (l8 : K.lookup f8 = some ⟨oc8, od8, .func (PySem.W.fnOf "worked" "worked" (defArgs s_worked) (defBody s_worked) (defScope s_worked) .none kV8 dc8 pm8 an8 (.ref cT) ct8), sl8⟩) (e8 : PySem.W.codeIn K (.ref cT) "worked" = true) (k8 : PySem.W.keepIn K (.ref f8) = true)
    (a9 : PySem.W.nsIn K mainGlobals "wanted_of" = some (some (.ref f9))) (l9 : K.lookup f9 = some ⟨oc9, od9, .func (PySem.W.fnOf "wanted_of" "wanted_of" (defArgs s_wanted_of) (defBody s_wanted_of) (defScope s_wanted_of) .none kV9 dc9 pm9 an9 cd9 ct9), sl9⟩) (e9 : PySem.W.codeIn K cd9 "wanted_of" = true) (k9 : PySem.W.keepIn K (.ref f9) = true)
    (a10 : PySem.W.nsIn K mainGlobals "ware_of" = some (some (.ref f10))) (l10 : K.lookup f10 = some ⟨oc10, od10, .func (PySem.W.fnOf "ware_of" "ware_of" (defArgs s_ware_of) (defBody s_ware_of) (defScope s_ware_of) .none kV10 dc10 pm10 an10 cd10 ct10), sl10⟩) (e10 : PySem.W.codeIn K cd10 "ware_of" = true) (k10 : PySem.W.keepIn K (.ref f10) = true)
    (a11 : PySem.W.nsIn K mainGlobals "explode" = some (some (.ref f11))) (l11 : K.lookup f11 = some ⟨oc11, od11, .func (PySem.W.fnOf "explode" "explode" (defArgs s_explode) (defBody s_explode) (defScope s_explode) .none kV11 dc11 pm11 an11 cd11 ct11), sl11⟩) (e11 : PySem.W.codeIn K cd11 "explode" = true) (k11 : PySem.W.keepIn K (.ref f11) = true)
    (a12 : PySem.W.nsIn K mainGlobals "times" = some (some (.ref f12))) (l12 : K.lookup f12 = some ⟨oc12, od12, .func (PySem.W.fnOf "times" "times" (defArgs s_times) (defBody s_times) (defScope s_times) .none kV12 dc12 pm12 an12 cd12 ct12), sl12⟩) (e12 : PySem.W.codeIn K cd12 "times" = true) (k12 : PySem.W.keepIn K (.ref f12) = true)
    (a13 : PySem.W.nsIn K mainGlobals "_law_amount" = some (some (.ref f13))) (l13 : K.lookup f13 = some ⟨oc13, od13, .func (PySem.W.fnOf "_law_amount" "_law_amount" (defArgs s__law_amount) (defBody s__law_amount) (defScope s__law_amount) .none kV13 dc13 pm13 an13 cd13 ct13), sl13⟩) (e13 : PySem.W.codeIn K cd13 "_law_amount" = true) (k13 : PySem.W.keepIn K (.ref f13) = true)
    (a14 : PySem.W.nsIn K mainGlobals "_law_wants" = some (some (.ref f14))) (l14 : K.lookup f14 = some ⟨oc14, od14, .func (PySem.W.fnOf "_law_wants" "_law_wants" (defArgs s__law_wants) (defBody s__law_wants) (defScope s__law_wants) .none kV14 dc14 pm14 an14 cd14 ct14), sl14⟩) (e14 : PySem.W.codeIn K cd14 "_law_wants" = true) (k14 : PySem.W.keepIn K (.ref f14) = true)
    (a15 : PySem.W.nsIn K mainGlobals "_law_coming" = some (some (.ref f15))) (l15 : K.lookup f15 = some ⟨oc15, od15, .func (PySem.W.fnOf "_law_coming" "_law_coming" (defArgs s__law_coming) (defBody s__law_coming) (defScope s__law_coming) .none kV15 dc15 pm15 an15 cd15 ct15), sl15⟩) (e15 : PySem.W.codeIn K cd15 "_law_coming" = true) (k15 : PySem.W.keepIn K (.ref f15) = true)
    (a16 : PySem.W.nsIn K mainGlobals "_law_ware" = some (some (.ref f16))) (l16 : K.lookup f16 = some ⟨oc16, od16, .func (PySem.W.fnOf "_law_ware" "_law_ware" (defArgs s__law_ware) (defBody s__law_ware) (defScope s__law_ware) .none kV16 dc16 pm16 an16 cd16 ct16), sl16⟩) (e16 : PySem.W.codeIn K cd16 "_law_ware" = true) (k16 : PySem.W.keepIn K (.ref f16) = true)
    (a17 : PySem.W.nsIn K mainGlobals "_law_small" = some (some (.ref f17))) (l17 : K.lookup f17 = some ⟨oc17, od17, .func (PySem.W.fnOf "_law_small" "_law_small" (defArgs s__law_small) (defBody s__law_small) (defScope s__law_small) .none kV17 dc17 pm17 an17 cd17 ct17), sl17⟩) (e17 : PySem.W.codeIn K cd17 "_law_small" = true) (k17 : PySem.W.keepIn K (.ref f17) = true)
    (a18 : PySem.W.nsIn K mainGlobals "so_far" = some (some (.ref f18))) (l18 : K.lookup f18 = some ⟨oc18, od18, .func (PySem.W.fnOf "so_far" "so_far" (defArgs s_so_far) (defBody s_so_far) (defScope s_so_far) .none kV18 dc18 pm18 an18 cd18 ct18), sl18⟩) (e18 : PySem.W.codeIn K cd18 "so_far" = true) (k18 : PySem.W.keepIn K (.ref f18) = true)
    (a19 : PySem.W.nsIn K mainGlobals "least_lots" = some (some (.ref f19))) (l19 : K.lookup f19 = some ⟨oc19, od19, .func (PySem.W.fnOf "least_lots" "least_lots" (defArgs s_least_lots) (defBody s_least_lots) (defScope s_least_lots) .none kV19 dc19 pm19 an19 cd19 ct19), sl19⟩) (e19 : PySem.W.codeIn K cd19 "least_lots" = true) (k19 : PySem.W.keepIn K (.ref f19) = true)
    (a20 : PySem.W.nsIn K mainGlobals "days_of" = some (some (.ref f20))) (l20 : K.lookup f20 = some ⟨oc20, od20, .func (PySem.W.fnOf "days_of" "days_of" (defArgs s_days_of) (defBody s_days_of) (defScope s_days_of) .none kV20 dc20 pm20 an20 cd20 ct20), sl20⟩) (e20 : PySem.W.codeIn K cd20 "days_of" = true) (k20 : PySem.W.keepIn K (.ref f20) = true)
    (a21 : PySem.W.nsIn K mainGlobals "had" = some (some (.ref f21))) (l21 : K.lookup f21 = some ⟨oc21, od21, .func (PySem.W.fnOf "had" "had" (defArgs s_had) (defBody s_had) (defScope s_had) .none kV21 dc21 pm21 an21 cd21 ct21), sl21⟩) (e21 : PySem.W.codeIn K cd21 "had" = true) (k21 : PySem.W.keepIn K (.ref f21) = true)
    (a22 : PySem.W.nsIn K mainGlobals "begun" = some (some (.ref f22))) (l22 : K.lookup f22 = some ⟨oc22, od22, .func (PySem.W.fnOf "begun" "begun" (defArgs s_begun) (defBody s_begun) (defScope s_begun) .none kV22 dc22 pm22 an22 cd22 ct22), sl22⟩) (e22 : PySem.W.codeIn K cd22 "begun" = true) (k22 : PySem.W.keepIn K (.ref f22) = true)
    (a23 : PySem.W.nsIn K mainGlobals "needs" = some (some (.ref f23))) (l23 : K.lookup f23 = some ⟨oc23, od23, .func (PySem.W.fnOf "needs" "needs" (defArgs s_needs) (defBody s_needs) (defScope s_needs) .none kV23 dc23 pm23 an23 cd23 ct23), sl23⟩) (e23 : PySem.W.codeIn K cd23 "needs" = true) (k23 : PySem.W.keepIn K (.ref f23) = true)
    (a24 : PySem.W.nsIn K mainGlobals "planned" = some (some (.ref f24))) (l24 : K.lookup f24 = some ⟨oc24, od24, .func (PySem.W.fnOf "planned" "planned" (defArgs s_planned) (defBody s_planned) (defScope s_planned) .none kV24 dc24 pm24 an24 cd24 ct24), sl24⟩) (e24 : PySem.W.codeIn K cd24 "planned" = true) (k24 : PySem.W.keepIn K (.ref f24) = true)
    (a25 : PySem.W.nsIn K mainGlobals "_law_plans_right" = some (some (.ref f25))) (l25 : K.lookup f25 = some ⟨oc25, od25, .func (PySem.W.fnOf "_law_plans_right" "_law_plans_right" (defArgs s__law_plans_right) (defBody s__law_plans_right) (defScope s__law_plans_right) .none kV25 dc25 pm25 an25 cd25 ct25), sl25⟩) (e25 : PySem.W.codeIn K cd25 "_law_plans_right" = true) (k25 : PySem.W.keepIn K (.ref f25) = true)
    (a26 : PySem.W.nsIn K mainGlobals "_law_together" = some (some (.ref f26))) (l26 : K.lookup f26 = some ⟨oc26, od26, .func (PySem.W.fnOf "_law_together" "_law_together" (defArgs s__law_together) (defBody s__law_together) (defScope s__law_together) .none kV26 dc26 pm26 an26 cd26 ct26), sl26⟩) (e26 : PySem.W.codeIn K cd26 "_law_together" = true) (k26 : PySem.W.keepIn K (.ref f26) = true)
    (a27 : PySem.W.nsIn K mainGlobals "law" = some (some (.ref f27))) (l27 : K.lookup f27 = some ⟨oc27, od27, .func (PySem.W.fnOf "law" "law" (defArgs s_law) (defBody s_law) (defScope s_law) .none kV27 dc27 pm27 an27 cd27 ct27), sl27⟩) (e27 : PySem.W.codeIn K cd27 "law" = true) (k27 : PySem.W.keepIn K (.ref f27) = true)
    (z0 : PySem.W.nsIn K mainGlobals "any" = some none)
    (z1 : PySem.W.nsIn K mainGlobals "dict" = some none)
    (z2 : PySem.W.nsIn K mainGlobals "enumerate" = some none)
    (z3 : PySem.W.nsIn K mainGlobals "int" = some none)
    (z4 : PySem.W.nsIn K mainGlobals "len" = some none)
    (z5 : PySem.W.nsIn K mainGlobals "list" = some none)
    (z6 : PySem.W.nsIn K mainGlobals "max" = some none)
    (z7 : PySem.W.nsIn K mainGlobals "min" = some none)
    (z8 : PySem.W.nsIn K mainGlobals "range" = some none)
    (z9 : PySem.W.nsIn K mainGlobals "reversed" = some none)
    (z10 : PySem.W.nsIn K mainGlobals "sorted" = some none)
    (z11 : PySem.W.nsIn K mainGlobals "sum" = some none)
    (z12 : PySem.W.nsIn K mainGlobals "tuple" = some none)
    (z13 : PySem.W.nsIn K mainGlobals "zip" = some none)
    : LamX.LawAtS l w K CX0 8 63 "script" mg fa h := by
  have q := hfa.symm.trans (PySem.W.mg_of X G a27)
  cases q
  have Z : Glb K mg := ⟨trivial, PySem.W.mg_none_of X G z0, PySem.W.mg_none_of X G z1, PySem.W.mg_none_of X G z2, PySem.W.mg_none_of X G z3, PySem.W.mg_none_of X G z4, PySem.W.mg_none_of X G z5, PySem.W.mg_none_of X G z6, PySem.W.mg_none_of X G z7, PySem.W.mg_none_of X G z8, PySem.W.mg_none_of X G z9, PySem.W.mg_none_of X G z10, PySem.W.mg_none_of X G z11, PySem.W.mg_none_of X G z12, PySem.W.mg_none_of X G z13⟩
  have F0 := fun_mk (st := s__law_drawn) l0 e0 k0
  have Dn0 : Dfn K mg "_law_drawn" s__law_drawn ["script"] := ⟨f0, _, F0, PySem.W.mg_of X G a0, F0.binds (ps := ["script"]) fun _ _ _ _ _ _ us hl => match us, hl with | [_], _ => rfl⟩
  have F1 := fun_mk (st := s__law_next) l1 e1 k1
  have Dn1 : Dfn K mg "_law_next" s__law_next ["state", "many"] := ⟨f1, _, F1, PySem.W.mg_of X G a1, F1.binds (ps := ["state", "many"]) fun _ _ _ _ _ _ us hl => match us, hl with | [_, _], _ => rfl⟩
  have F2 := fun_mk (st := s__law_among) l2 e2 k2
  have Dn2 : Dfn K mg "_law_among" s__law_among ["state", "one", "other"] := ⟨f2, _, F2, PySem.W.mg_of X G a2, F2.binds (ps := ["state", "one", "other"]) fun _ _ _ _ _ _ us hl => match us, hl with | [_, _, _], _ => rfl⟩
  have F3 := fun_mk (st := s_parts_by_name) l3 e3 k3
  have Dn3 : Dfn K mg "parts_by_name" s_parts_by_name ["shop"] := ⟨f3, _, F3, PySem.W.mg_of X G a3, F3.binds (ps := ["shop"]) fun _ _ _ _ _ _ us hl => match us, hl with | [_], _ => rfl⟩
  have F4 := fun_mk (st := s_without_ends) l4 e4 k4
  have Dn4 : Dfn K mg "without_ends" s_without_ends ["parts"] := ⟨f4, _, F4, PySem.W.mg_of X G a4, F4.binds (ps := ["parts"]) fun _ _ _ _ _ _ us hl => match us, hl with | [_], _ => rfl⟩
  have F5 := fun_mk (st := s_ring) l5 e5 k5
  have Dn5 : Dfn K mg "ring" s_ring ["shop"] := ⟨f5, _, F5, PySem.W.mg_of X G a5, F5.binds (ps := ["shop"]) fun _ _ _ _ _ _ us hl => match us, hl with | [_], _ => rfl⟩
  have F6 := fun_mk (st := s_check_rings) l6 e6 k6
  have Dn6 : Dfn K mg "check_rings" s_check_rings ["shop"] := ⟨f6, _, F6, PySem.W.mg_of X G a6, F6.binds (ps := ["shop"]) fun _ _ _ _ _ _ us hl => match us, hl with | [_], _ => rfl⟩
  have F7 := fun_mk (st := s_levels) l7 e7 k7
  have Dn7 : Dfn K mg "levels" s_levels ["shop"] := ⟨f7, _, F7, PySem.W.mg_of X G a7, F7.binds (ps := ["shop"]) fun _ _ _ _ _ _ us hl => match us, hl with | [_], _ => rfl⟩
  have F8 := fun_mk (st := s_worked) l8 e8 k8
  have ht : PySem.W.tabIn K "worked" = some (cT, pT) := tab_mk a8 l8 rfl lT vT
  have Fc8 : FunC K "worked" "worked" s_worked f8 _ cT := ⟨⟨_, _, _, _, _, _, _, _, rfl, l8, e8⟩, k8⟩
  have Dn8 : DfnC K mg "worked" s_worked ["shop"] cT := ⟨f8, _, Fc8, PySem.W.mg_of X G a8, F8.binds (ps := ["shop"]) fun _ _ _ _ _ _ us hl => match us, hl with | [_], _ => rfl⟩
  have F9 := fun_mk (st := s_wanted_of) l9 e9 k9
  have Dn9 : Dfn K mg "wanted_of" s_wanted_of ["shop", "name"] := ⟨f9, _, F9, PySem.W.mg_of X G a9, F9.binds (ps := ["shop", "name"]) fun _ _ _ _ _ _ us hl => match us, hl with | [_, _], _ => rfl⟩
  have F10 := fun_mk (st := s_ware_of) l10 e10 k10
  have Dn10 : Dfn K mg "ware_of" s_ware_of ["shop", "name"] := ⟨f10, _, F10, PySem.W.mg_of X G a10, F10.binds (ps := ["shop", "name"]) fun _ _ _ _ _ _ us hl => match us, hl with | [_, _], _ => rfl⟩
  have F11 := fun_mk (st := s_explode) l11 e11 k11
  have Dn11 : Dfn K mg "explode" s_explode ["shop"] := ⟨f11, _, F11, PySem.W.mg_of X G a11, F11.binds (ps := ["shop"]) fun _ _ _ _ _ _ us hl => match us, hl with | [_], _ => rfl⟩
  have F12 := fun_mk (st := s_times) l12 e12 k12
  have Dn12 : Dfn K mg "times" s_times ["shop"] := ⟨f12, _, F12, PySem.W.mg_of X G a12, F12.binds (ps := ["shop"]) fun _ _ _ _ _ _ us hl => match us, hl with | [_], _ => rfl⟩
  have F13 := fun_mk (st := s__law_amount) l13 e13 k13
  have Dn13 : Dfn K mg "_law_amount" s__law_amount ["state"] := ⟨f13, _, F13, PySem.W.mg_of X G a13, F13.binds (ps := ["state"]) fun _ _ _ _ _ _ us hl => match us, hl with | [_], _ => rfl⟩
  have F14 := fun_mk (st := s__law_wants) l14 e14 k14
  have Dn14 : Dfn K mg "_law_wants" s__law_wants ["state", "names", "many"] := ⟨f14, _, F14, PySem.W.mg_of X G a14, F14.binds (ps := ["state", "names", "many"]) fun _ _ _ _ _ _ us hl => match us, hl with | [_, _, _], _ => rfl⟩
  have F15 := fun_mk (st := s__law_coming) l15 e15 k15
  have Dn15 : Dfn K mg "_law_coming" s__law_coming ["state", "many"] := ⟨f15, _, F15, PySem.W.mg_of X G a15, F15.binds (ps := ["state", "many"]) fun _ _ _ _ _ _ us hl => match us, hl with | [_, _], _ => rfl⟩
  have F16 := fun_mk (st := s__law_ware) l16 e16 k16
  have Dn16 : Dfn K mg "_law_ware" s__law_ware ["state", "name", "parts", "top"] := ⟨f16, _, F16, PySem.W.mg_of X G a16, F16.binds (ps := ["state", "name", "parts", "top"]) fun _ _ _ _ _ _ us hl => match us, hl with | [_, _, _, _], _ => rfl⟩
  have F17 := fun_mk (st := s__law_small) l17 e17 k17
  have Dn17 : Dfn K mg "_law_small" s__law_small ["state", "sign"] := ⟨f17, _, F17, PySem.W.mg_of X G a17, F17.binds (ps := ["state", "sign"]) fun _ _ _ _ _ _ us hl => match us, hl with | [_, _], _ => rfl⟩
  have F18 := fun_mk (st := s_so_far) l18 e18 k18
  have Dn18 : Dfn K mg "so_far" s_so_far ["row"] := ⟨f18, _, F18, PySem.W.mg_of X G a18, F18.binds (ps := ["row"]) fun _ _ _ _ _ _ us hl => match us, hl with | [_], _ => rfl⟩
  have F19 := fun_mk (st := s_least_lots) l19 e19 k19
  have Dn19 : Dfn K mg "least_lots" s_least_lots ["have", "need", "gives", "floor"] := ⟨f19, _, F19, PySem.W.mg_of X G a19, F19.binds (ps := ["have", "need", "gives", "floor"]) fun _ _ _ _ _ _ us hl => match us, hl with | [_, _, _, _], _ => rfl⟩
  have F20 := fun_mk (st := s_days_of) l20 e20 k20
  have Dn20 : Dfn K mg "days_of" s_days_of ["shop"] := ⟨f20, _, F20, PySem.W.mg_of X G a20, F20.binds (ps := ["shop"]) fun _ _ _ _ _ _ us hl => match us, hl with | [_], _ => rfl⟩
  have F21 := fun_mk (st := s_had) l21 e21 k21
  have Dn21 : Dfn K mg "had" s_had ["shop", "name"] := ⟨f21, _, F21, PySem.W.mg_of X G a21, F21.binds (ps := ["shop", "name"]) fun _ _ _ _ _ _ us hl => match us, hl with | [_, _], _ => rfl⟩
  have F22 := fun_mk (st := s_begun) l22 e22 k22
  have Dn22 : Dfn K mg "begun" s_begun ["shop", "plan", "name"] := ⟨f22, _, F22, PySem.W.mg_of X G a22, F22.binds (ps := ["shop", "plan", "name"]) fun _ _ _ _ _ _ us hl => match us, hl with | [_, _, _], _ => rfl⟩
  have F23 := fun_mk (st := s_needs) l23 e23 k23
  have Dn23 : Dfn K mg "needs" s_needs ["shop", "plan", "name"] := ⟨f23, _, F23, PySem.W.mg_of X G a23, F23.binds (ps := ["shop", "plan", "name"]) fun _ _ _ _ _ _ us hl => match us, hl with | [_, _, _], _ => rfl⟩
  have F24 := fun_mk (st := s_planned) l24 e24 k24
  have Dn24 : Dfn K mg "planned" s_planned ["shop"] := ⟨f24, _, F24, PySem.W.mg_of X G a24, F24.binds (ps := ["shop"]) fun _ _ _ _ _ _ us hl => match us, hl with | [_], _ => rfl⟩
  have F25 := fun_mk (st := s__law_plans_right) l25 e25 k25
  have Dn25 : Dfn K mg "_law_plans_right" s__law_plans_right ["shops", "both"] := ⟨f25, _, F25, PySem.W.mg_of X G a25, F25.binds (ps := ["shops", "both"]) fun _ _ _ _ _ _ us hl => match us, hl with | [_, _], _ => rfl⟩
  have F26 := fun_mk (st := s__law_together) l26 e26 k26
  have Dn26 : Dfn K mg "_law_together" s__law_together ["first", "second", "whole"] := ⟨f26, _, F26, PySem.W.mg_of X G a26, F26.binds (ps := ["first", "second", "whole"]) fun _ _ _ _ _ _ us hl => match us, hl with | [_, _, _], _ => rfl⟩
  have F27 := fun_mk (st := s_law) l27 e27 k27
  have C0 : ∀ base : Heap, LamX.TabB base mg cT pT → Cal l.prog w K mg base 1 "_law_drawn" (sp__law_drawn K) [] := fun base tb => c__law_drawn Dn0 Z 
  have C1 : ∀ base : Heap, LamX.TabB base mg cT pT → Cal l.prog w K mg base 1 "_law_next" (sp__law_next K) [] := fun base tb => c__law_next Dn1 Z 
  have C2 : ∀ base : Heap, LamX.TabB base mg cT pT → Cal l.prog w K mg base 2 "_law_among" (sp__law_among K) [] := fun base tb => c__law_among Dn2 Z (C1 base tb)
  have C3 : ∀ base : Heap, LamX.TabB base mg cT pT → Cal l.prog w K mg base 1 "parts_by_name" (sp_parts_by_name K) [] := fun base tb => c_parts_by_name Dn3 Z 
  have C4 : ∀ base : Heap, LamX.TabB base mg cT pT → Cal l.prog w K mg base 1 "without_ends" (sp_without_ends K) [] := fun base tb => c_without_ends Dn4 Z 
  have C5 : ∀ base : Heap, LamX.TabB base mg cT pT → Cal l.prog w K mg base 2 "ring" (sp_ring K) [] := fun base tb => c_ring Dn5 Z (C4 base tb) (C3 base tb)
  have C6 : ∀ base : Heap, LamX.TabB base mg cT pT → Cal l.prog w K mg base 3 "check_rings" (sp_check_rings K) [] := fun base tb => c_check_rings Dn6 Z (C5 base tb)
  have C7 : ∀ base : Heap, LamX.TabB base mg cT pT → Cal l.prog w K mg base 4 "levels" (sp_levels K) [] := fun base tb => c_levels Dn7 Z (C3 base tb) (C6 base tb)
  have C8 : ∀ base : Heap, LamX.TabB base mg cT pT → Cal l.prog w K mg base 5 "worked" (sp_worked K) [] := fun base tb => c_worked Dn8 tb ht Z (C7 base tb)
  have C9 : ∀ base : Heap, LamX.TabB base mg cT pT → Cal l.prog w K mg base 1 "wanted_of" (sp_wanted_of K) [] := fun base tb => c_wanted_of Dn9 Z 
  have C10 : ∀ base : Heap, LamX.TabB base mg cT pT → Cal l.prog w K mg base 1 "ware_of" (sp_ware_of K) [] := fun base tb => c_ware_of Dn10 Z 
  have C11 : ∀ base : Heap, LamX.TabB base mg cT pT → Cal l.prog w K mg base 6 "explode" (sp_explode K) [] := fun base tb => c_explode Dn11 Z (C10 base tb) (C9 base tb) (C8 base tb)
  have C12 : ∀ base : Heap, LamX.TabB base mg cT pT → Cal l.prog w K mg base 6 "times" (sp_times K) [] := fun base tb => c_times Dn12 Z (C8 base tb) (C3 base tb)
  have C13 : ∀ base : Heap, LamX.TabB base mg cT pT → Cal l.prog w K mg base 2 "_law_amount" (sp__law_amount K) [] := fun base tb => c__law_amount Dn13 Z (C1 base tb)
  have C14 : ∀ base : Heap, LamX.TabB base mg cT pT → Cal l.prog w K mg base 3 "_law_wants" (sp__law_wants K) [] := fun base tb => c__law_wants Dn14 Z (C1 base tb) (C13 base tb)
  have C15 : ∀ base : Heap, LamX.TabB base mg cT pT → Cal l.prog w K mg base 3 "_law_coming" (sp__law_coming K) [] := fun base tb => c__law_coming Dn15 Z (C1 base tb) (C13 base tb)
  have C16 : ∀ base : Heap, LamX.TabB base mg cT pT → Cal l.prog w K mg base 4 "_law_ware" (sp__law_ware K) [] := fun base tb => c__law_ware Dn16 Z (C15 base tb) (C1 base tb) (C13 base tb)
  have C17 : ∀ base : Heap, LamX.TabB base mg cT pT → Cal l.prog w K mg base 5 "_law_small" (sp__law_small K) [] := fun base tb => c__law_small Dn17 Z (C14 base tb) (C1 base tb) (C16 base tb)
  have C18 : ∀ base : Heap, LamX.TabB base mg cT pT → Cal l.prog w K mg base 1 "so_far" (sp_so_far K) [] := fun base tb => c_so_far Dn18 Z 
  have C19 : ∀ base : Heap, LamX.TabB base mg cT pT → Cal l.prog w K mg base 2 "least_lots" (sp_least_lots K) [] := fun base tb => c_least_lots Dn19 Z (C18 base tb)
  have C20 : ∀ base : Heap, LamX.TabB base mg cT pT → Cal l.prog w K mg base 4 "days_of" (sp_days_of K) [] := fun base tb => c_days_of Dn20 Z (C6 base tb)
  have C21 : ∀ base : Heap, LamX.TabB base mg cT pT → Cal l.prog w K mg base 5 "had" (sp_had K) [] := fun base tb => c_had Dn21 Z (C20 base tb) (C10 base tb)
  have C22 : ∀ base : Heap, LamX.TabB base mg cT pT → Cal l.prog w K mg base 4 "begun" (sp_begun K) [] := fun base tb => c_begun Dn22 Z (C10 base tb) (C6 base tb)
  have C23 : ∀ base : Heap, LamX.TabB base mg cT pT → Cal l.prog w K mg base 5 "needs" (sp_needs K) [] := fun base tb => c_needs Dn23 Z (C22 base tb) (C20 base tb)
  have C24 : ∀ base : Heap, LamX.TabB base mg cT pT → Cal l.prog w K mg base 6 "planned" (sp_planned K) [] := fun base tb => c_planned Dn24 Z (C8 base tb) (C19 base tb) (C23 base tb) (C21 base tb) (C10 base tb)
  have C25 : ∀ base : Heap, LamX.TabB base mg cT pT → Cal l.prog w K mg base 7 "_law_plans_right" (sp__law_plans_right K) [] := fun base tb => c__law_plans_right Dn25 Z (C20 base tb) (C24 base tb)
  have C26 : ∀ base : Heap, LamX.TabB base mg cT pT → Cal l.prog w K mg base 1 "_law_together" (sp__law_together K) [] := fun base tb => c__law_together Dn26 Z 
  obtain ⟨lo, mean, mb, T⟩ := T
  obtain ⟨dw, hd⟩ := rq
  obtain ⟨tc, tp⟩ := PySem.W.tab_of T X hd ht
  refine ⟨PySem.W.fnOf "law" "law" (defArgs s_law) (defBody s_law) (defScope s_law) .none kV27 dc27 pm27 an27 cd27 ct27, [(cT, pT)], spLaw K (Gd K), fun p hp => ?_, fun p hp => ?_, fun p hp => ?_, fun s v => .of_eq rfl, fun H a ns hle _ hT hS => ⟨a, ns, rfl, hS, hle, fun P e => ?_, fun _ => rfl⟩, fun base _ _ tb => ?_⟩
  · rcases List.mem_singleton.mp hp with rfl
    exact tp
  · rcases List.mem_singleton.mp hp with rfl
    exact hn
  · rcases List.mem_singleton.mp hp with rfl
    exact tc
  · have e' : (PySem.W.tabIn K "worked").map (·.2) = some P := e
    rw [ht] at e'
    cases e'
    exact hT _ (List.mem_singleton.mpr rfl)
  · have tb := tb _ (List.mem_singleton.mpr rfl)
    exact law_of (c_law F27 Z (C7 base tb) (C12 base tb) (C11 base tb) (C26 base tb) (C25 base tb) (C2 base tb) (C17 base tb) (C0 base tb))
end N
open PySem PySem.W PyProof.Rows
set_option maxHeartbeats 0 in
theorem PySem.Challenge.cw_needplan_k94_whole_shops_beside_holds : PySem.Challenge.rw_needplan_k94_whole_shops_beside.Holds := by
  w_on; o_law; k_head; (case hw => w_witness2)
  k_fill
  refine VL.walk_T (l := PySem.Challenge.rw_needplan_k94_whole_shops_beside) (n := 63) (k := 8) (x := "script") (CX := fun _ => L2.CX0) rfl (by decide) rfl ⟨rfl, by decide, by decide⟩ (fun w h Y => PySem.W.km_in_of Y) ?F (fun _ _ _ _ _ h => h)
  case F =>
    intro w mg fa h T KX G hmg
    refine' N.all_mk KX G T ?rq ?lT ?vT ?hn hmg ?a0 ?l0 ?e0 ?k0 ?a1 ?l1 ?e1 ?k1 ?a2 ?l2 ?e2 ?k2 ?a3 ?l3 ?e3 ?k3 ?a4 ?l4 ?e4 ?k4 ?a5 ?l5 ?e5 ?k5 ?a6 ?l6 ?e6 ?k6 ?a7 ?l7 ?e7 ?k7 ?a8 ?l8 ?e8 ?k8 ?a9 ?l9 ?e9 ?k9 ?a10 ?l10 ?e10 ?k10 ?a11 ?l11 ?e11 ?k11 ?a12 ?l12 ?e12 ?k12 ?a13 ?l13 ?e13 ?k13 ?a14 ?l14 ?e14 ?k14 ?a15 ?l15 ?e15 ?k15 ?a16 ?l16 ?e16 ?k16 ?a17 ?l17 ?e17 ?k17 ?a18 ?l18 ?e18 ?k18 ?a19 ?l19 ?e19 ?k19 ?a20 ?l20 ?e20 ?k20 ?a21 ?l21 ?e21 ?k21 ?a22 ?l22 ?e22 ?k22 ?a23 ?l23 ?e23 ?k23 ?a24 ?l24 ?e24 ?k24 ?a25 ?l25 ?e25 ?k25 ?a26 ?l26 ?e26 ?k26 ?a27 ?l27 ?e27 ?k27 ?z0 ?z1 ?z2 ?z3 ?z4 ?z5 ?z6 ?z7 ?z8 ?z9 ?z10 ?z11 ?z12 ?z13
    (case rq => exact ⟨_, by rfl⟩)
    (case a0 => k_is); (case l0 => k_is); (case e0 => k_is); (case k0 => k_is); (case a1 => k_is); (case l1 => k_is)
    (case e1 => k_is); (case k1 => k_is); (case a2 => k_is); (case l2 => k_is); (case e2 => k_is); (case k2 => k_is)
    (case a3 => k_is); (case l3 => k_is); (case e3 => k_is); (case k3 => k_is); (case a4 => k_is); (case l4 => k_is)
    (case e4 => k_is); (case k4 => k_is); (case a5 => k_is); (case l5 => k_is); (case e5 => k_is); (case k5 => k_is)
    (case a6 => k_is); (case l6 => k_is); (case e6 => k_is); (case k6 => k_is); (case a7 => k_is); (case l7 => k_is)
    (case e7 => k_is); (case k7 => k_is); (case a8 => k_is); (case l8 => k_is); (case e8 => k_is); (case k8 => k_is)
    (case a9 => k_is); (case l9 => k_is); (case e9 => k_is); (case k9 => k_is); (case a10 => k_is); (case l10 => k_is)
    (case e10 => k_is); (case k10 => k_is); (case a11 => k_is); (case l11 => k_is); (case e11 => k_is); (case k11 => k_is)
    (case a12 => k_is); (case l12 => k_is); (case e12 => k_is); (case k12 => k_is); (case a13 => k_is); (case l13 => k_is)
    (case e13 => k_is); (case k13 => k_is); (case a14 => k_is); (case l14 => k_is); (case e14 => k_is); (case k14 => k_is)
    (case a15 => k_is); (case l15 => k_is); (case e15 => k_is); (case k15 => k_is); (case a16 => k_is); (case l16 => k_is)
    (case e16 => k_is); (case k16 => k_is); (case a17 => k_is); (case l17 => k_is); (case e17 => k_is); (case k17 => k_is)
    (case a18 => k_is); (case l18 => k_is); (case e18 => k_is); (case k18 => k_is); (case a19 => k_is); (case l19 => k_is)
    (case e19 => k_is); (case k19 => k_is); (case a20 => k_is); (case l20 => k_is); (case e20 => k_is); (case k20 => k_is)
    (case a21 => k_is); (case l21 => k_is); (case e21 => k_is); (case k21 => k_is); (case a22 => k_is); (case l22 => k_is)
    (case e22 => k_is); (case k22 => k_is); (case a23 => k_is); (case l23 => k_is); (case e23 => k_is); (case k23 => k_is)
    (case a24 => k_is); (case l24 => k_is); (case e24 => k_is); (case k24 => k_is); (case a25 => k_is); (case l25 => k_is)
    (case e25 => k_is); (case k25 => k_is); (case a26 => k_is); (case l26 => k_is); (case e26 => k_is); (case k26 => k_is)
    (case a27 => k_is); (case l27 => k_is); (case e27 => k_is); (case k27 => k_is); (case z0 => k_is); (case z1 => k_is)
    (case z2 => k_is); (case z3 => k_is); (case z4 => k_is); (case z5 => k_is); (case z6 => k_is); (case z7 => k_is)
    (case z8 => k_is); (case z9 => k_is); (case z10 => k_is); (case z11 => k_is); (case z12 => k_is); (case z13 => k_is)
    (case lT => k_is); (case vT => exact rfl); (case hn => kernel_rfl)
